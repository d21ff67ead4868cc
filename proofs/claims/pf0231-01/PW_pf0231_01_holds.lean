import PyProof.Rows.All
import Wide.All
import OpenK.AllK
import Wide.FinOn
import PyProof.DictRoadsH
import PyProof.AttrMissHeap
import KE.KDictOf
import Lean
import PySem.Challenge.RW_pf0231_01
open PySem PySem.W PySem.Calls PySem.Spec PyProof.Rows
set_option Elab.async false
set_option maxRecDepth 100000
set_option linter.unusedVariables false
set_option linter.unusedSimpArgs false
set_option compiler.extract_closed false
namespace Mine
-- Hd
section
/-- the statements of the text that bind a def or a class -/
def isDef : Stmt → Bool
  | .Assign .. => false
  | _ => true
/-- the text without its four assignments -/
def lview : Program := { PySem.Challenge.rw_pf0231_01.row.prog with main := { PySem.Challenge.rw_pf0231_01.row.prog.main with body := PySem.Challenge.rw_pf0231_01.row.prog.main.body.filter isDef } }
set_option maxRecDepth 100000 in
theorem law_said : OpenLaw.wellSaid PySem.Challenge.rw_pf0231_01 = true := by kernel_rfl
local macro_rules
  | `(tactic| o_law) => `(tactic| refine holds_law law_said fun said => ?_)
local macro_rules
  | `(tactic| o_head $H) => `(tactic| (refine holds_open (q := lview) (loose := []) (Xt := fun s => xlAt lview [] s && recOk (RowW.records PySem.Challenge.rw_pf0231_01.row.toRowW) s) (XP := XL lview []) (Yf := Hook.obs $H) (Ya := Hook.val $H) (YP := Hook.says $H) (N := 3104) ?hl (Hook.of $H) (Hook.keeps $H) (fun s e => xl_of s (Bool.and_eq_true_iff.mp e).1) XL.keeps (by rfl) (by rfl) (by rfl) (fun s e => recFacts_of (Bool.and_eq_true_iff.mp e).2) (by rfl) (by first | assumption | decide +kernel) (by decide +kernel) ⟨rfl, rfl, rfl, rfl, rfl, by decide +kernel⟩ ?hw ?hc; (case hl => (intro w; kernel_rfl))))
set_option maxRecDepth 100000 in
set_option maxHeartbeats 8000000 in
open_top hd for PySem.Challenge.rw_pf0231_01
end
-- Base
/-- the facts that every call of the law's runs under -/
structure Amb (w : World) (mean : ExcName → Option Value) (mg mb : Str → Option Value) (dp un : Nat) (cs : Scope) (outer : List Env) (A₀ : Around) (base h₀ : Heap) : Prop where
  B : Below A₀ base outer h₀
  X : (hd.heap_1 w.params).In h₀
  T : Top lview (looseW lview []) mean mg mb h₀
  k : cs.kind = .function
  d : dp + 8 < recursionLimit
  u : un + 64 < cLine
/-- a place where the walk stops -/
def Stop (P : Prop) : Prop := P
theorem stop_here {P : Prop} (h : Stop P) : P := h
theorem stop_go {P : Prop} (h : P) : Stop P := h
/-- one row of a body, its end told -/
theorem stmt_step {M : Model} {A : Around} {Q : Flow → Shared → Prop} {E : Value → Shared → Prop} {s : Shared} {env : Env} {st : Stmt} {rest : List Stmt} {R : Shared → Prop} (h : wpAny M A (exec st env) (fun f s' => Stop (f = .next ∧ R s')) E s) (k : ∀ s', R s' → wpAny M A (execs rest env) Q E s') : wpAny M A (execs (st :: rest) env) Q E s :=
  wpAny_execs_cons (wpAny_mono h (fun f s' hq => by obtain ⟨rfl, hr⟩ := hq; exact k s' hr) fun _ _ e => e)
/-- a function's locals, written out -/
def mapOf (l : List (Str × Value)) : Str → Option Value := fun z => l.lookup z
theorem mapOf_cons {k : Str} {v : Value} {l : List (Str × Value)} : (fun y => if y = k then some v else mapOf l y) = mapOf ((k, v) :: l) := by
  funext y
  unfold mapOf
  rw [List.lookup_cons]
  by_cases h : y = k
  · simp [h]
  · rw [if_neg h, beq_eq_false_iff_ne.mpr h]
theorem fr_put {h₀ h : Heap} {L : Addr} {k : Str} {v : Value} {l : List (Str × Value)} (F : Fr h₀ L h (fun y => if y = k then some v else mapOf l y)) : Fr h₀ L h (mapOf ((k, v) :: l)) := mapOf_cons ▸ F
theorem fr_put2 {h₀ h : Heap} {L : Addr} {k k2 : Str} {v v2 : Value} {l : List (Str × Value)} (F : Fr h₀ L h (fun y => if y = k2 then some v2 else if y = k then some v else mapOf l y)) : Fr h₀ L h (mapOf ((k2, v2) :: (k, v) :: l)) := by
  have e : (fun y => if y = k2 then some v2 else if y = k then some v else mapOf l y) = mapOf ((k2, v2) :: (k, v) :: l) := by
    rw [← mapOf_cons, ← mapOf_cons]
  exact e ▸ F
-- Loop
/-- none of new stands where one of l stands -/
def Apart (new l : List (Addr × Obj)) : Prop := ∀ q ∈ new, ∀ p ∈ l, p.1 ≠ q.1
section
variable {σ : Type} (h₀ : Heap) (L : Addr) (Led : σ → List (Addr × Obj)) (adr : List Addr) (fz : σ → List (Addr × Obj)) (ps : σ → List (Str × Value)) (x : Str) (stored : List Str) (m₀ : Str → Option Value)
/-- how a turn of a loop ends: T' the ledger's rest at its start, f the frozen part at its start -/
def TurnEnd (P : σ → Prop) (T' f : List (Addr × Obj)) (s₁ s₂ : Shared) : Prop :=
  ∃ (c : σ) (new : List (Addr × Obj)) (h' : Heap) (tk : Nat) (m' : Str → Option Value), s₂ = { s₁ with heap := h', toks := tk } ∧ Fr h₀ L h' m' ∧ News h₀ L h' (Led c ++ (new ++ T')) ∧
    (∀ q ∈ new, q.1 ∉ adr) ∧ Apart new T' ∧ (∀ p ∈ fz c, p ∈ new ++ f) ∧ (∀ p ∈ ps c, m' p.1 = some p.2) ∧ (∀ z, z ≠ x → (∀ p ∈ ps c, z ≠ p.1) → stored.contains z = false → m' z = m₀ z) ∧ P c
def TurnPost (P : σ → Prop) (T' f : List (Addr × Obj)) (s₁ : Shared) (Q : Flow → Shared → Prop) (fl : Flow) (s₂ : Shared) : Prop :=
  match fl with
  | .ret v => Q (.ret v) s₂
  | .brk => Q .next s₂
  | _ => TurnEnd h₀ L Led adr fz ps x stored m₀ P T' f s₁ s₂
/-- between two turns -/
def Between (T : List (Addr × Obj)) (f₀ : List (Addr × Obj)) (P : Nat → σ → Prop) (i : Nat) (m : Str → Option Value) (nx : List (Addr × Obj)) : Prop :=
  ∃ (c : σ) (new : List (Addr × Obj)), nx = Led c ++ (new ++ T) ∧ (∀ q ∈ new, q.1 ∉ adr) ∧ Apart new T ∧ (∀ p ∈ fz c, p ∈ new ++ f₀) ∧ (∀ p ∈ ps c, m p.1 = some p.2) ∧ (∀ z, z ≠ x → (∀ p ∈ ps c, z ≠ p.1) → stored.contains z = false → m z = m₀ z) ∧ P i c
end
section
variable {prog : Program} {w : World} {A : Around} {E : Value → Shared → Prop} {s : Shared} {env : Env} {h₀ : Heap} {x : Str} {body : List Stmt} {Q : Flow → Shared → Prop}
/-- a loop whose source is told; the walk stops here -/
def MyLoop (prog : Program) (w : World) (A : Around) (h₀ : Heap) (env : Env) (x : Str) (body : List Stmt) (Q : Flow → Shared → Prop) (E : Value → Shared → Prop) (xv : Value) (s₁ : Shared) : Prop :=
  wpAny (model prog w) A (pyIter xv) (fun it s₂ => LoopAtV prog w A h₀ env x body Q E it s₂) E s₁
theorem For_mine {m : Str → Option Value} {px pos : Pos} {iter : Expr} (F : Fr h₀ env.locals s.heap m) (hx : env.kindOf x = some .local)
    (hp : (env.scope.kind == .class || (env.scope.kind == .module && env.locals != env.globals)) = false)
    (h : wpAny (model prog w) A (eval iter env) (fun xv s₁ => MyLoop prog w A h₀ env x body Q E xv s₁) E s)
    (hs : ∀ x, foldedSetIterable iter env x = pure x := by intro _; rfl)
    (hE : PassesOwn (model prog w) A env E := by passes_own) :
    wpAny (model prog w) A (exec (.For (.Name x px) iter body [] pos) env) Q E s := For_invVF F hx hp h hs
theorem between_turn {σ : Type} {Led : σ → List (Addr × Obj)} {adr : List Addr} {fz : σ → List (Addr × Obj)} {ps : σ → List (Str × Value)} {stored : List Str} {m₀ : Str → Option Value} {T f₀ : List (Addr × Obj)} {P : Nat → σ → Prop} (hadr : ∀ c, (Led c).map (·.1) = adr)
    {i : Nat} {h : Heap} {tk : Nat} {own : List (Addr × Obj)} {c : σ} {new : List (Addr × Obj)} (hoff : OwnOff own ((Led c ++ (new ++ T)).map (·.1))) (hn : ∀ q ∈ new, q.1 ∉ adr) (ha : Apart new T) (hf : ∀ p ∈ fz c, p ∈ new ++ f₀)
    {fl : Flow} {s₂ : Shared} (hp : TurnPost h₀ env.locals Led adr fz ps x stored m₀ (P (i + 1)) ((new ++ T) ++ own) (fz c) { s with heap := h, toks := tk } Q fl s₂) :
    InvPostG h₀ env.locals (Between Led adr fz ps x stored m₀ T f₀ P (i + 1)) own { s with heap := h, toks := tk } Q fl s₂ := by
  have fin : TurnEnd h₀ env.locals Led adr fz ps x stored m₀ (P (i + 1)) ((new ++ T) ++ own) (fz c) { s with heap := h, toks := tk } s₂ → InvEndG h₀ env.locals (Between Led adr fz ps x stored m₀ T f₀ P (i + 1)) own { s with heap := h, toks := tk } s₂ := by
    rintro ⟨c', new', h', tk', m', e, F', N', hn', ha', hf', h1, h2, hP⟩
    refine ⟨h', tk', m', _, Led c' ++ ((new' ++ new) ++ T), e, F', N', ?_, ?_, ?_, c', new' ++ new, rfl, ?_, ?_, ?_, h1, h2, hP⟩
    · intro p hp
      simp only [List.mem_append] at hp ⊢
      rcases hp with hp | (hp | hp) | hp <;> simp [hp]
    · intro p hp
      simp [hp]
    · intro p hp b hb e
      obtain ⟨q, hq, rfl⟩ := List.mem_map.mp hb
      simp only [List.mem_append] at hq
      have hL : q ∈ Led c' → q.1 ∈ (Led c ++ (new ++ T)).map (·.1) := fun hq => by
        have h3 : q.1 ∈ adr := hadr c' ▸ List.mem_map.mpr ⟨q, hq, rfl⟩
        rw [List.map_append, hadr c]
        exact List.mem_append.mpr (.inl h3)
      rcases hq with hq | (hq | hq) | hq
      · exact hoff p hp _ (hL hq) e
      · exact ha' q hq p (by simp [hp]) e
      · exact hoff p hp q.1 (List.mem_map.mpr ⟨q, by simp [hq], rfl⟩) e
      · exact hoff p hp q.1 (List.mem_map.mpr ⟨q, by simp [hq], rfl⟩) e
    · intro q hq
      rcases List.mem_append.mp hq with hq | hq
      · exact hn' q hq
      · exact hn q hq
    · intro q hq p hp
      rcases List.mem_append.mp hq with hq | hq
      · exact ha' q hq p (by simp [hp])
      · exact ha q hq p hp
    · intro p hp
      rcases List.mem_append.mp (hf' p hp) with hp | hp
      · simp [hp]
      · rcases List.mem_append.mp (hf p hp) with hp | hp <;> simp [hp]
  cases fl with
  | ret v => exact hp
  | brk => exact hp
  | next => exact fin hp
  | cont => exact fin hp

theorem for_rng {σ : Type} {r : Addr} {a₀ b₀ : Int} {t₀ u₀ v₀ : Tok} {n : Nat} {m₀ : Str → Option Value} {news : List (Addr × Obj)} (Led : σ → List (Addr × Obj)) (adr : List Addr) (fz : σ → List (Addr × Obj)) (ps : σ → List (Str × Value)) (stored : List Str) (P : Nat → σ → Prop) (T : List (Addr × Obj)) (c₀ : σ)
    (hh : A.handled = none) (hr : IsRange s.heap r a₀ b₀ 1 t₀ u₀ v₀) (hsmall : Builtin.Range.small a₀ b₀ 1 = true) (hsz : Builtin.Range.rangeSize a₀ b₀ 1 = (n : Int)) (F : Fr h₀ env.locals s.heap m₀) (N : News h₀ env.locals s.heap news)
    (hN : ∀ p ∈ Led c₀ ++ T, p ∈ news) (hadr : ∀ c, (Led c).map (·.1) = adr) (hT : ∀ p ∈ T, p.1 ∉ adr) (hz : ∀ p ∈ fz c₀, p ∈ T) (hk : ∀ p ∈ ps c₀, m₀ p.1 = some p.2) (hp : P 0 c₀)
    (turn : ∀ (i : Nat) (c : σ) (T' : List (Addr × Obj)) (u : Str → Option Value) t h tk, i < n → P i c → (∀ p ∈ fz c, p ∈ T') → (∀ p ∈ T', p.1 ∉ adr) → (∀ p ∈ T, p ∈ T') →
      Fr h₀ env.locals h (fun y => if y = x then some (.int (a₀ + (i : Int)) t) else kstB (fun z => if stored.contains z then u z else m₀ z) (ps c) y) → News h₀ env.locals h (Led c ++ T') →
      wpAny (model prog w) A (execs body env) (TurnPost h₀ env.locals Led adr fz ps x stored m₀ (P (i + 1)) T' (fz c) { s with heap := h, toks := tk } Q) E { s with heap := h, toks := tk })
    (done : ∀ (c : σ) (new : List (Addr × Obj)) (u : Str → Option Value) h tk, P n c → (∀ q ∈ new, q.1 ∉ adr) → Apart new T → (∀ p ∈ fz c, p ∈ new ++ fz c₀) →
      Fr h₀ env.locals h (fun y => if y = x then u y else kstB (fun z => if stored.contains z then u z else m₀ z) (ps c) y) → News h₀ env.locals h (Led c ++ (new ++ T)) → Q .next { s with heap := h, toks := tk }) :
    wpAny (model prog w) A (pyIter (.ref r)) (fun it s₂ => LoopAtV prog w A h₀ env x body Q E it s₂) E s := by
  refine wpAny_pyIter_range hr hsmall ?_
  have W : Walks prog w A s.heap.objs.size [s.heap.objs.size] [s.heap.objs.size] n (fun i v => i < n ∧ ∃ t, v = .int (a₀ + i * 1) t)
      (fun i h => IsRangeIter h s.heap.objs.size (a₀ + (i : Nat) * 1) ((n : Int) - (i : Nat)) 1) := (Walks.range hh _ a₀ 1 n).bound
  refine kdr_loop (Between Led adr fz ps x stored m₀ T (fz c₀) P) W (fun _ h => h) (fun _ h => h) ?_ ?_ ?_ (news := Led c₀ ++ ([] ++ T)) ?_ (by show IsRangeIter _ _ _ _ _; rw [hsz]; simpa using Heap.get?_push_size _ rfl) (F.push _)
    (fun p hp => ⟨Heap.get?_push_of_some _ (N p (hN p (by simpa using hp))).1, (N p (hN p (by simpa using hp))).2⟩) ⟨c₀, [], rfl, fun _ hp => (nomatch hp), fun _ hp => (nomatch hp), fun p hp => by simpa using hp, hk, fun _ _ _ _ => rfl, hp⟩ ?_ ?_
  · intro i h hi b hb
    rw [List.mem_singleton.mp hb]
    exact ⟨_, hi⟩
  · intro hm
    exact absurd F.ns.lt ((List.mem_singleton.mp hm) ▸ Nat.lt_irrefl _)
  · intro b hb
    rw [List.mem_singleton.mp hb]
    exact next_is_new F
  · intro p hp hI
    exact absurd (Heap.lt_size (N p (hN p (by simpa using hp))).1) ((List.mem_singleton.mp hI) ▸ Nat.lt_irrefl _)
  · rintro i v m₁ nx h tk own hi ⟨_, t, rfl⟩ hoff ⟨c, new, rfl, hn, ha, hf, h1, h2, hP⟩ F₁ N₁
    have e1 : a₀ + (i : Int) * 1 = a₀ + (i : Int) := by omega
    rw [e1] at F₁
    rw [List.append_assoc] at N₁
    refine wpAny_mono (turn i c ((new ++ T) ++ own) m₁ t h tk hi hP ?_ ?_ ?_ (kst_fr h1 h2 F₁) N₁) (fun fl s₂ p => between_turn hadr hoff hn ha hf p) fun _ _ e => e
    · intro p hp
      rcases List.mem_append.mp (hf p hp) with hp | hp
      · simp [hp]
      · simp [hz p hp]
    · intro p hp
      simp only [List.mem_append] at hp
      rcases hp with (hp | hp) | hp
      · exact hn p hp
      · exact hT p hp
      · intro hm
        refine hoff p hp p.1 ?_ rfl
        rw [List.map_append, hadr c]
        exact List.mem_append.mpr (.inl hm)
    · intro p hp
      simp [hp]
  · rintro m₁ nx h tk ⟨c, new, rfl, hn, ha, hf, h1, h2, hP⟩ F₁ N₁
    exact done c new m₁ h tk hP hn ha hf (kst_frOut h1 h2 F₁) N₁

theorem for_lst {σ : Type} {l : Addr} {vs : List Value} {ns : List Int} {nn : Nat} {m₀ : Str → Option Value} {news : List (Addr × Obj)} (Led : σ → List (Addr × Obj)) (adr : List Addr) (fz : σ → List (Addr × Obj)) (ps : σ → List (Str × Value)) (stored : List Str) (P : Nat → σ → Prop) (T : List (Addr × Obj)) (c₀ : σ)
    (hh : A.handled = none) (hl : (l, listOf vs.toArray nn) ∈ T) (hi : IntsAre vs ns) (F : Fr h₀ env.locals s.heap m₀) (N : News h₀ env.locals s.heap news)
    (hN : ∀ p ∈ Led c₀ ++ T, p ∈ news) (hadr : ∀ c, (Led c).map (·.1) = adr) (hT : ∀ p ∈ T, p.1 ∉ adr) (hz : ∀ p ∈ fz c₀, p ∈ T) (hk : ∀ p ∈ ps c₀, m₀ p.1 = some p.2) (hp : P 0 c₀)
    (turn : ∀ (i : Nat) (k : Int) (c : σ) (T' : List (Addr × Obj)) (u : Str → Option Value) t h tk, ns[i]? = some k → P i c → (∀ p ∈ fz c, p ∈ T') → (∀ p ∈ T', p.1 ∉ adr) → (∀ p ∈ T, p ∈ T') →
      Fr h₀ env.locals h (fun y => if y = x then some (.int k t) else kstB (fun z => if stored.contains z then u z else m₀ z) (ps c) y) → News h₀ env.locals h (Led c ++ T') →
      wpAny (model prog w) A (execs body env) (TurnPost h₀ env.locals Led adr fz ps x stored m₀ (P (i + 1)) T' (fz c) { s with heap := h, toks := tk } Q) E { s with heap := h, toks := tk })
    (done : ∀ (c : σ) (new : List (Addr × Obj)) (u : Str → Option Value) h tk, P ns.length c → (∀ q ∈ new, q.1 ∉ adr) → Apart new T → (∀ p ∈ fz c, p ∈ new ++ fz c₀) →
      Fr h₀ env.locals h (fun y => if y = x then u y else kstB (fun z => if stored.contains z then u z else m₀ z) (ps c) y) → News h₀ env.locals h (Led c ++ (new ++ T)) → Q .next { s with heap := h, toks := tk }) :
    wpAny (model prog w) A (pyIter (.ref l)) (fun it s₂ => LoopAtV prog w A h₀ env x body Q E it s₂) E s := by
  have hlen : vs.length = ns.length := hi.length
  refine kdl_iter (vs := vs) (nn := nn) (news := Led c₀ ++ ([] ++ T)) (Between Led adr fz ps x stored m₀ T (fz c₀) P) hh (List.mem_append.mpr (.inr (List.mem_append.mpr (.inr hl)))) F (fun p hp => N p (hN p (by simpa using hp)))
    ⟨c₀, [], rfl, fun _ hp => (nomatch hp), fun _ hp => (nomatch hp), fun p hp => by simpa using hp, hk, fun _ _ _ _ => rfl, hp⟩ ?_ ?_
  · rintro i v m₁ nx h tk own hv hoff _ ⟨c, new, rfl, hn, ha, hf, h1, h2, hP⟩ F₁ N₁
    have hi' : i < ns.length := by rw [← hlen]; exact (List.getElem?_eq_some_iff.mp hv).1
    obtain ⟨t, hx⟩ := hi.get i (ns[i]'hi') (List.getElem?_eq_getElem hi')
    have ev : v = .int (ns[i]'hi') t := by rw [hx] at hv; exact (Option.some.inj hv).symm
    subst ev
    rw [List.append_assoc] at N₁
    refine wpAny_mono (turn i (ns[i]'hi') c ((new ++ T) ++ own) m₁ t h tk (List.getElem?_eq_getElem hi') hP ?_ ?_ ?_ (kst_fr h1 h2 F₁) N₁) (fun fl s₂ p => ?_) fun _ _ e => e
    · intro p hp
      rcases List.mem_append.mp (hf p hp) with hp | hp
      · simp [hp]
      · simp [hz p hp]
    · intro p hp
      simp only [List.mem_append] at hp
      rcases hp with (hp | hp) | hp
      · exact hn p hp
      · exact hT p hp
      · intro hm
        refine hoff p hp p.1 ?_ rfl
        rw [List.map_append, hadr c]
        exact List.mem_append.mpr (.inl hm)
    · intro p hp
      simp [hp]
    · have q := between_turn (Q := Q) (P := P) hadr hoff hn ha hf p
      have up : InvEndG h₀ env.locals (Between Led adr fz ps x stored m₀ T (fz c₀) P (i + 1)) own { s with heap := h, toks := tk } s₂ →
          InvEndG h₀ env.locals (fun m' nx => (l, listOf vs.toArray nn) ∈ nx ∧ Between Led adr fz ps x stored m₀ T (fz c₀) P (i + 1) m' nx) own { s with heap := h, toks := tk } s₂ := by
        rintro ⟨h', tk', m', news', nx', e', F', N', hn', ho', ha', hS⟩
        refine ⟨h', tk', m', news', nx', e', F', N', hn', ho', ha', ?_, hS⟩
        obtain ⟨c', new', rfl, _⟩ := hS
        simp [hl]
      cases fl with
      | ret v => exact q
      | brk => exact q
      | next => exact up q
      | cont => exact up q
  · rintro m₁ nx h tk ⟨c, new, rfl, hn, ha, hf, h1, h2, hP⟩ F₁ N₁
    rw [hlen] at hP
    exact done c new m₁ h tk hP hn ha hf (kst_frOut h1 h2 F₁) N₁
end
-- C1
local macro_rules | `(tactic| k_all) => `(tactic| assumption)
section
variable {w : World} {mean : ExcName → Option Value} {mg mb : Str → Option Value} {dp un : Nat} {gd : Option (List Code)} {cn : Str} {cs : Scope} {a : Addr} {ccd : Value} {cl : List (Str × Addr)} {outer : List Env} {A₀ : Around} {base h₀ : Heap} {L : Addr} {m : Str → Option Value} {s : Shared} {Q E : Value → Shared → Prop} {news : List (Addr × Obj)}

set_option maxHeartbeats 4000000 in
theorem parts_spec 
    (B : Below A₀ base outer h₀) (F : Fr h₀ L s.heap m) (X : (hd.heap_1 w.params).In h₀) (N : News h₀ L s.heap news) (T : Top lview (looseW lview []) mean mg mb h₀) (hk : cs.kind = .function)
    (hdp : dp + 2 < recursionLimit) (hun : un + 16 < cLine)
    {x y : Int} {tx ty : Tok} (hx : 0 ≤ x) (hx2 : x < 100000) (hy : 1 ≤ y) (hy2 : y < 100000)
    (hret : ∀ t h' tk', Fr h₀ L h' m → News h₀ L h' news → Q (.int (Int.fdiv (x + y - 1) y) t) { s with heap := h', toks := tk' }) :
    wpAny (model PySem.Challenge.rw_pf0231_01.row.prog w) (ktrTop dp un gd cn cs L a ccd cl outer) (call (.ref 63) [.int x tx, .int y ty]) Q E s := by
  w_on
  have hz : PySem.Challenge.rw_pf0231_01 = PySem.Challenge.rw_pf0231_01 ∧ hd.heap_1 = hd.heap_1 := by
    k_fill
    exact ⟨rfl, rfl⟩
  clear hz
  refine wpAny_call ?_
  k_dflt ktr_enter
  k_steps
  exact hret _ _ _ (by assumption) (by assumption)

set_option maxHeartbeats 4000000 in
theorem drawn_spec {sp : Addr} {x y many : Int} {tx ty tm : Tok} {n : Nat} {rest : List (Addr × Obj)}
    (B : Below A₀ base outer h₀) (F : Fr h₀ L s.heap m) (X : (hd.heap_1 w.params).In h₀) (N : News h₀ L s.heap ((sp, listOf #[.int x tx, .int y ty] n) :: rest)) (T : Top lview (looseW lview []) mean mg mb h₀) (hk : cs.kind = .function)
    (hdp : dp + 2 < recursionLimit) (hun : un + 16 < cLine)
    (hne : ∀ p ∈ rest, p.1 ≠ sp)
    (hx : 0 ≤ x) (hy : 0 ≤ y) (hy2 : y < 4294967296) (hm : 1 ≤ many) (hm2 : many < 100000)
    (hret : ∀ v t x' y' tx' ty' h' tk', 0 ≤ v → v < many → 0 ≤ x' → 0 ≤ y' → y' < 4294967296 → Fr h₀ L h' m → News h₀ L h' ((sp, listOf #[.int x' tx', .int y' ty'] n) :: rest) → Q (.int v t) { s with heap := h', toks := tk' }) :
    wpAny (model PySem.Challenge.rw_pf0231_01.row.prog w) (ktrTop dp un gd cn cs L a ccd cl outer) (call (.ref 199) [.ref sp, .int many tm]) Q E s := by
  w_on
  have hz : PySem.Challenge.rw_pf0231_01 = PySem.Challenge.rw_pf0231_01 ∧ hd.heap_1 = hd.heap_1 := by
    k_fill
    exact ⟨rfl, rfl⟩
  clear hz
  refine wpAny_call ?_
  k_dflt ktr_enter
  k_steps
  · refine hret _ _ _ _ _ _ _ _ ?_ ?_ ?_ ?_ ?_ (by assumption) (by assumption)
    · exact Int.fmod_nonneg_of_pos _ (by omega)
    · exact Int.fmod_lt_of_pos _ (by omega)
    · show 0 ≤ x.fdiv many
      rw [Int.fdiv_eq_ediv_of_nonneg _ (by omega)]
      exact Int.ediv_nonneg hx (by omega)
    · exact hy
    · exact hy2
  · refine hret _ _ _ _ _ _ _ _ ?_ ?_ ?_ ?_ ?_ (by assumption) (by assumption)
    · exact Int.fmod_nonneg_of_pos _ (by omega)
    · exact Int.fmod_lt_of_pos _ (by omega)
    · exact hx
    · exact Int.fmod_nonneg_of_pos _ (by omega)
    · exact Int.lt_trans (Int.fmod_lt_of_pos _ (by omega)) (by omega)
end
-- C2
local macro_rules | `(tactic| k_mem) => `(tactic| first | exact List.mem_cons_self | with_reducible assumption | assumption | (refine' List.mem_cons_of_mem _ ?_; k_mem))
local macro_rules | `(tactic| lcg_sub) => `(tactic| first | (refine List.forall_mem_cons.mpr ⟨by k_mem, ?_⟩; lcg_sub) | (intro p hp; k_mem))
local macro_rules | `(tactic| walk_at "CompEnd") => `(tactic| ((with_unfolding_all refine' LCg.CompEnd.intro ?cF ?cN _ ?cS ?cO ?cR ?_); (case cF => assumption); (case cO => assumption); (case cN => assumption); (case cS => lcg_sub); (case cR => exact Or.inr ⟨_, by k_mem, rfl, _, rfl⟩)))
section
variable {prog : Program} {w : World} {A : Around} {s : Shared} {h₀ : Heap} {L : Addr} {m : Str → Option Value} {env : Env} {elt : Expr} {x : Str} {scope : Scope} {cl : List (Str × Addr)} {S : List (Addr × Obj) → Prop} {P : Nat → Value → Prop} {Fin : List Value → List (Addr × Obj) → Prop}
theorem compEnd_mono {s₁ s₂ : Shared} {I C D : Addr} {oI oC oD : Obj} {r r' : Value → List (Addr × Obj) → Prop} {y : Value} (h : LCg.CompEnd h₀ L m s₁ I oI C oC D oD S r y s₂) (hr : ∀ y n, r y n → r' y n) : LCg.CompEnd h₀ L m s₁ I oI C oC D oD S r' y s₂ := by
  obtain ⟨h', tk, news', e, F, N, off, hS, q⟩ := h
  exact ⟨h', tk, news', e, F, N, off, hS, hr _ _ q⟩
/-- the turns of a comprehension by an invariant -/
theorem compRest_inv (n : Nat) (Inv : Nat → List Value → List (Addr × Obj) → Prop)
    (step : ∀ i ys news v I oI C oC D m₂ h tk (E' : Value → Shared → Prop), i < n → Inv i ys news → P i v → LCg.NsObj oC m₂ → m₂ x = some v → Fr h₀ L h m → News h₀ L h ((I, oI) :: (C, oC) :: (D, LCg.lst ys) :: news) → LCg.Off3 I C D news → ((@Ne Nat I C) ∧ (@Ne Nat I D) ∧ (@Ne Nat C D)) →
      wpAny (model prog w) A (eval elt (compEnvC scope cl C env)) (LCg.CompEnd h₀ L m { s with heap := h, toks := tk } I oI C oC D (LCg.lst ys) S (fun y news' => Inv (i + 1) (ys ++ [y]) news')) E' { s with heap := h, toks := tk })
    (fin : ∀ ys news, Inv n ys news → Fin ys news) :
    ∀ (k i : Nat) (ys : List Value) (news : List (Addr × Obj)), k + i = n → Inv i ys news → LCg.CompRest prog w A h₀ L m env elt x scope cl s S P Fin k i ys news := by
  intro k
  induction k with
  | zero =>
    intro i ys news e h
    have : i = n := by omega
    subst this
    exact LCg.CompRest.zero (fin _ _ h)
  | succ k ih =>
    intro i ys news e h
    refine LCg.CompRest.succ fun v I oI C oC D m₂ hh tk E' a1 a2 a3 a4 a5 a6 a7 => ?_
    refine wpAny_mono (step i ys news v I oI C oC D m₂ hh tk E' (by omega) h a1 a2 a3 a4 a5 a6 a7) (fun y s₂ q => compEnd_mono q fun y n q => ih (i + 1) _ _ (by omega) q) fun _ _ e => e
end
structure Cmp where
  ident : Int
  across : Int
  down : Int
  quant : Int

/-- an object of Component in the ledger -/
inductive CompIn (w : World) (news : List (Addr × Obj)) (v : Value) (c : Cmp) : Prop
  | mk (a d : Addr) (k1 k2 k3 k4 t1 t2 t3 t4 : Tok) (n : Nat) (h0 : v = .ref a) (h1 : (a, instObj 80 d) ∈ news) (h2 :
    (d, dictOf [⟨PyData.keyHash w.params (Str.ofString "ident"), .str (Str.ofString "ident") k1, .int c.ident t1⟩,
      ⟨PyData.keyHash w.params (Str.ofString "across"), .str (Str.ofString "across") k2, .int c.across t2⟩,
      ⟨PyData.keyHash w.params (Str.ofString "down"), .str (Str.ofString "down") k3, .int c.down t3⟩,
      ⟨PyData.keyHash w.params (Str.ofString "quant"), .str (Str.ofString "quant") k4, .int c.quant t4⟩] n) ∈ news)
def CompsIn (w : World) (news : List (Addr × Obj)) : List Value → List Cmp → Prop
  | [], [] => True
  | v :: vs, c :: cs => CompIn w news v c ∧ CompsIn w news vs cs
  | _, _ => False
theorem CompsIn.two {w : World} {news : List (Addr × Obj)} {vs : List Value} {c0 c1 : Cmp} (h : CompsIn w news vs [c0, c1]) : ∃ v0 v1, vs = [v0, v1] ∧ CompIn w news v0 c0 ∧ CompIn w news v1 c1 := by
  rcases vs with _ | ⟨v0, _ | ⟨v1, _ | ⟨v2, r⟩⟩⟩
  · exact h.elim
  · exact h.2.elim
  · exact ⟨v0, v1, rfl, h.1, h.2.1⟩
  · exact h.2.2.elim
theorem CompsIn.three {w : World} {news : List (Addr × Obj)} {vs : List Value} {c0 c1 c2 : Cmp} (h : CompsIn w news vs [c0, c1, c2]) : ∃ v0 v1 v2, vs = [v0, v1, v2] ∧ CompIn w news v0 c0 ∧ CompIn w news v1 c1 ∧ CompIn w news v2 c2 := by
  rcases vs with _ | ⟨v0, _ | ⟨v1, _ | ⟨v2, _ | ⟨v3, r⟩⟩⟩⟩
  · exact h.elim
  · exact h.2.elim
  · exact h.2.2.elim
  · exact ⟨v0, v1, v2, rfl, h.1, h.2.1, h.2.2.1⟩
  · exact h.2.2.2.elim
theorem len_two {α : Type} {l : List α} (h : l.length = 2) : ∃ a b, l = [a, b] := by
  rcases l with _ | ⟨a, _ | ⟨b, _ | ⟨c, r⟩⟩⟩ <;> simp at h
  exact ⟨a, b, rfl⟩
theorem len_three {α : Type} {l : List α} (h : l.length = 3) : ∃ a b c, l = [a, b, c] := by
  rcases l with _ | ⟨a, _ | ⟨b, _ | ⟨c, _ | ⟨d, r⟩⟩⟩⟩ <;> simp at h
  exact ⟨a, b, c, rfl⟩
theorem CompsIn.len {w : World} {l : List (Addr × Obj)} : ∀ {vs : List Value} {cs : List Cmp}, CompsIn w l vs cs → vs.length = cs.length
  | [], [], _ => rfl
  | _ :: _, _ :: _, h => congrArg (· + 1) (CompsIn.len h.2)
  | [], _ :: _, h => h.elim
  | _ :: _, [], h => h.elim
inductive CompAt (w : World) (news : List (Addr × Obj)) (v : Value) (cs : List Cmp) (j : Nat) : Prop
  | mk (c : Cmp) (hc : cs[j]? = some c) (a d : Addr) (k1 k2 k3 k4 t1 t2 t3 t4 : Tok) (n : Nat) (h0 : v = .ref a) (h1 : (a, instObj 80 d) ∈ news) (h2 :
    (d, dictOf [⟨PyData.keyHash w.params (Str.ofString "ident"), .str (Str.ofString "ident") k1, .int c.ident t1⟩,
      ⟨PyData.keyHash w.params (Str.ofString "across"), .str (Str.ofString "across") k2, .int c.across t2⟩,
      ⟨PyData.keyHash w.params (Str.ofString "down"), .str (Str.ofString "down") k3, .int c.down t3⟩,
      ⟨PyData.keyHash w.params (Str.ofString "quant"), .str (Str.ofString "quant") k4, .int c.quant t4⟩] n) ∈ news)
theorem CompsIn.at {w : World} {l : List (Addr × Obj)} : ∀ {vs : List Value} {cs : List Cmp} {j : Nat} {v : Value}, CompsIn w l vs cs → vs[j]? = some v → CompAt w l v cs j
  | _ :: _, c :: _, 0, v, h, e => by
    obtain ⟨a, d, k1, k2, k3, k4, t1, t2, t3, t4, n, e0, h1, h2⟩ := h.1
    exact ⟨c, rfl, a, d, k1, k2, k3, k4, t1, t2, t3, t4, n, (Option.some.inj e).symm.trans e0, h1, h2⟩
  | _ :: _, _ :: _, j + 1, v, h, e => by
    obtain ⟨c, hc, a, d, k1, k2, k3, k4, t1, t2, t3, t4, n, e0, h1, h2⟩ := CompsIn.at h.2 (j := j) (v := v) (by simpa using e)
    exact ⟨c, by simpa using hc, a, d, k1, k2, k3, k4, t1, t2, t3, t4, n, e0, h1, h2⟩
  | [], [], _, _, _, e => nomatch e
  | [], _ :: _, _, _, h, _ => h.elim
  | _ :: _, [], _, _, h, _ => h.elim
theorem take_map_succ {cs : List Cmp} {j : Nat} {c : Cmp} {f : Cmp → Int} (h : cs[j]? = some c) : (cs.map f).take (j + 1) = (cs.map f).take j ++ [f c] := by
  rw [List.take_add_one, List.getElem?_map, h]
  rfl
theorem foldl_max_mem {α : Type} (f : α → Int) : ∀ (l : List α) (x : Int), l.foldl (fun x c => max x (f c)) x = x ∨ ∃ c ∈ l, l.foldl (fun x c => max x (f c)) x = f c
  | [], _ => .inl rfl
  | c :: l, x => by
    rcases foldl_max_mem f l (max x (f c)) with h | ⟨d, hd, h⟩
    · simp only [List.foldl, h]
      rcases (by omega : max x (f c) = x ∨ max x (f c) = f c) with e | e
      · exact .inl e
      · exact .inr ⟨c, by simp, e⟩
    · exact .inr ⟨d, by simp [hd], h⟩
theorem foldl_max_up {α : Type} (f : α → Int) : ∀ (l : List α) (x : Int), x ≤ l.foldl (fun x c => max x (f c)) x ∧ ∀ c ∈ l, f c ≤ l.foldl (fun x c => max x (f c)) x
  | [], x => ⟨Int.le_refl _, by simp⟩
  | c :: l, x => by
    have h := foldl_max_up f l (max x (f c))
    refine ⟨by have := h.1; simp only [List.foldl]; omega, fun d hd => ?_⟩
    rcases List.mem_cons.mp hd with rfl | hd
    · have := h.1; simp only [List.foldl]; omega
    · exact h.2 d hd
/-- a list's greatest number is the fold's -/
theorem max_fold {cs : List Cmp} {f : Cmp → Int} {M : Int} (h1 : M ∈ cs.map f) (h2 : ∀ a ∈ cs.map f, a ≤ M) (h0 : ∀ c ∈ cs, 0 ≤ f c) : M = cs.foldl (fun x c => max x (f c)) 0 := by
  obtain ⟨c, hc, rfl⟩ := List.mem_map.mp h1
  have a1 := (foldl_max_up f cs 0).2 c hc
  rcases foldl_max_mem f cs 0 with e | ⟨d, hd, e⟩
  · have := h0 c hc; omega
  · have := h2 _ (List.mem_map.mpr ⟨d, hd, rfl⟩); omega
structure Geo where
  height : Int
  width : Int
  comps : List Cmp
/-- an object of Frame in the ledger -/
inductive FrameIn (w : World) (news : List (Addr × Obj)) (a : Addr) (g : Geo) : Prop
  | mk (d l : Addr) (k1 k2 k3 k4 k5 k6 t1 t2 t3 t4 t6 : Tok) (n n' : Nat) (vs : List Value) (h1 : (a, instObj 146 d) ∈ news) (h2 :
    (d, dictOf [⟨PyData.keyHash w.params (Str.ofString "kind"), .str (Str.ofString "kind") k1, .str (Str.ofString "extended") t1⟩,
      ⟨PyData.keyHash w.params (Str.ofString "precision"), .str (Str.ofString "precision") k2, .int 8 t2⟩,
      ⟨PyData.keyHash w.params (Str.ofString "height"), .str (Str.ofString "height") k3, .int g.height t3⟩,
      ⟨PyData.keyHash w.params (Str.ofString "width"), .str (Str.ofString "width") k4, .int g.width t4⟩,
      ⟨PyData.keyHash w.params (Str.ofString "components"), .str (Str.ofString "components") k5, .ref l⟩,
      ⟨PyData.keyHash w.params (Str.ofString "n"), .str (Str.ofString "n") k6, .int 8 t6⟩] n) ∈ news)
    (h3 : (l, listOf vs.toArray n') ∈ news) (h4 : CompsIn w news vs g.comps)
/-- what the law draws: two or three components, each one to four across and down; one MCU at least, two at most, each way -/
structure Geo.Ok (g : Geo) : Prop where
  len : g.comps.length = 2 ∨ g.comps.length = 3
  across : ∀ c ∈ g.comps, 1 ≤ c.across ∧ c.across ≤ 4
  down : ∀ c ∈ g.comps, 1 ≤ c.down ∧ c.down ≤ 4
  width : 1 ≤ g.width ∧ g.width ≤ 64
  height : 1 ≤ g.height ∧ g.height ≤ 64
def Geo.mA (g : Geo) : Int := g.comps.foldl (fun x c => max x c.across) 0
def Geo.mD (g : Geo) : Int := g.comps.foldl (fun x c => max x c.down) 0
theorem max_in {prog : Program} {A : Around} {w : World} {s : Shared} {E : Value → Shared → Prop} {h₀ : Heap} {L l : Addr} {m : Str → Option Value} {news : List (Addr × Obj)} {vs : List Value} {cs : List Cmp} {f : Cmp → Int} {Q : Value → Shared → Prop}
    (F : Fr h₀ L s.heap m) (N : News h₀ L s.heap news) (hm : (l, LCg.lst vs) ∈ news) (hi : IntsAre vs (cs.map f)) (hn : 0 < cs.length) (h0 : ∀ c ∈ cs, 0 ≤ f c) (hh : A.handled = none)
    (h : ∀ t h' tk, Fr h₀ L h' m → News h₀ L h' news → Q (.int (cs.foldl (fun x c => max x (f c)) 0) t) { s with heap := h', toks := tk }) :
    wpAny (model prog w) A (call (.builtin "max") [.ref l]) Q E s :=
  kso_max F N ⟨_, (N _ hm).1, rfl, _, rfl⟩ hi (by simpa using hn) hh fun h' M t tk F' N' a b => by
    rw [max_fold a b h0]
    exact h _ _ _ F' N'
local macro_rules | `(tactic| walk_at "call builtin:max") => `(tactic| (k_here; (with_reducible show wpAny _ _ (call (Value.builtin _) [Value.ref _]) _ _ _); (with_unfolding_all refine' max_in (by k_asm) (by k_asm) (by k_mem) (by assumption) (by assumption) (by assumption) (by with_unfolding_all rfl) ?_; k_whole); intro t' h' tk' F' N'; (try k_fold)))
section
local macro_rules | `(tactic| walk_at "CompSrc") => `(tactic| (k_here; refine stop_here ?_))
section
variable {w : World} {mean : ExcName → Option Value} {mg mb : Str → Option Value} {dp un : Nat} {gd : Option (List Code)} {cn : Str} {cs : Scope} {a : Addr} {ccd : Value} {cl : List (Str × Addr)} {outer : List Env} {A₀ : Around} {base h₀ : Heap} {L : Addr} {m : Str → Option Value} {s : Shared} {Q E : Value → Shared → Prop} {news : List (Addr × Obj)}

set_option maxHeartbeats 4000000 in
theorem most_across_spec {fr : Addr} {g : Geo} (B : Below A₀ base outer h₀) (F : Fr h₀ L s.heap m) (X : (hd.heap_1 w.params).In h₀) (N : News h₀ L s.heap news) (T : Top lview (looseW lview []) mean mg mb h₀) (hk : cs.kind = .function)
    (hdp : dp + 2 < recursionLimit) (hun : un + 16 < cLine)
    (hf : FrameIn w news fr g) (hg : g.Ok)
    (hret : ∀ t h' tk', Fr h₀ L h' m → News h₀ L h' news → Q (.int g.mA t) { s with heap := h', toks := tk' }) :
    wpAny (model PySem.Challenge.rw_pf0231_01.row.prog w) (ktrTop dp un gd cn cs L a ccd cl outer) (call (.ref 103) [.ref fr]) Q E s := by
  w_on
  have hz : PySem.Challenge.rw_pf0231_01 = PySem.Challenge.rw_pf0231_01 ∧ hd.heap_1 = hd.heap_1 := by
    k_fill
    exact ⟨rfl, rfl⟩
  clear hz
  obtain ⟨d, l, k1, k2, k3, k4, k5, k6, t1, t2, t3, t4, t6, n, n', vs, h1, h2, h3, h4⟩ := hf
  have hlen := h4.len
  have hg3 := hg.len
  have hpos : 0 < g.comps.length := by omega
  have hlo : ∀ c ∈ g.comps, 0 ≤ c.across := fun c hc => by have := hg.across c hc; omega
  refine wpAny_call ?_
  k_dflt ktr_enter
  k_steps
  rename Fr _ _ _ _ => F1
  rename News _ _ _ _ => N1
  unfold Stop
  refine LCg.CompSrc.ledger (its := vs.toArray) (k := n') rfl F1 N1 h3 (by rw [List.size_toArray, sizeLine_eq]; omega) (fun g' => ?_)
  refine compRest_inv vs.toArray.size (fun j ys2 nx => nx = news ∧ IntsAre ys2 ((g.comps.map Cmp.across).take j)) ?step ?fin _ 0 [] _ rfl ⟨rfl, .nil⟩
  case step =>
    intro j ys2 nx v2 I oI C2 oC2 D2 m3 hh3 tk3 E3 hj hinv hv2 hC2 hx2 F4 N4 off4 ne4
    obtain ⟨rfl, hi2⟩ := hinv
    obtain ⟨c9, hc9, a9, d9, _, _, _, _, _, _, _, _, _, rfl, ha9, hd9⟩ := h4.at (by simpa using hv2)
    k_steps
    rw [take_map_succ hc9]
    exact hi2.append (.cons _ _ .nil)
  case fin =>
    rintro ys2 nx ⟨rfl, hi2⟩ D2 h5 tk5 F5 N5 o5
    rw [List.take_of_length_le (by rw [List.length_map, List.size_toArray, hlen]; exact Nat.le_refl _)] at hi2
    k_steps
    rename_i kF kN _ _
    exact hret _ _ _ kF (fun p hp => kN p (List.mem_cons_of_mem _ hp))

set_option maxHeartbeats 4000000 in
theorem most_down_spec {fr : Addr} {g : Geo} (B : Below A₀ base outer h₀) (F : Fr h₀ L s.heap m) (X : (hd.heap_1 w.params).In h₀) (N : News h₀ L s.heap news) (T : Top lview (looseW lview []) mean mg mb h₀) (hk : cs.kind = .function)
    (hdp : dp + 2 < recursionLimit) (hun : un + 16 < cLine)
    (hf : FrameIn w news fr g) (hg : g.Ok)
    (hret : ∀ t h' tk', Fr h₀ L h' m → News h₀ L h' news → Q (.int g.mD t) { s with heap := h', toks := tk' }) :
    wpAny (model PySem.Challenge.rw_pf0231_01.row.prog w) (ktrTop dp un gd cn cs L a ccd cl outer) (call (.ref 108) [.ref fr]) Q E s := by
  w_on
  have hz : PySem.Challenge.rw_pf0231_01 = PySem.Challenge.rw_pf0231_01 ∧ hd.heap_1 = hd.heap_1 := by
    k_fill
    exact ⟨rfl, rfl⟩
  clear hz
  obtain ⟨d, l, k1, k2, k3, k4, k5, k6, t1, t2, t3, t4, t6, n, n', vs, h1, h2, h3, h4⟩ := hf
  have hlen := h4.len
  have hg3 := hg.len
  have hpos : 0 < g.comps.length := by omega
  have hlo : ∀ c ∈ g.comps, 0 ≤ c.down := fun c hc => by have := hg.down c hc; omega
  refine wpAny_call ?_
  k_dflt ktr_enter
  k_steps
  rename Fr _ _ _ _ => F1
  rename News _ _ _ _ => N1
  unfold Stop
  refine LCg.CompSrc.ledger (its := vs.toArray) (k := n') rfl F1 N1 h3 (by rw [List.size_toArray, sizeLine_eq]; omega) (fun g' => ?_)
  refine compRest_inv vs.toArray.size (fun j ys2 nx => nx = news ∧ IntsAre ys2 ((g.comps.map Cmp.down).take j)) ?step ?fin _ 0 [] _ rfl ⟨rfl, .nil⟩
  case step =>
    intro j ys2 nx v2 I oI C2 oC2 D2 m3 hh3 tk3 E3 hj hinv hv2 hC2 hx2 F4 N4 off4 ne4
    obtain ⟨rfl, hi2⟩ := hinv
    obtain ⟨c9, hc9, a9, d9, _, _, _, _, _, _, _, _, _, rfl, ha9, hd9⟩ := h4.at (by simpa using hv2)
    k_steps
    rw [take_map_succ hc9]
    exact hi2.append (.cons _ _ .nil)
  case fin =>
    rintro ys2 nx ⟨rfl, hi2⟩ D2 h5 tk5 F5 N5 o5
    rw [List.take_of_length_le (by rw [List.length_map, List.size_toArray, hlen]; exact Nat.le_refl _)] at hi2
    k_steps
    rename_i kF kN _ _
    exact hret _ _ _ kF (fun p hp => kN p (List.mem_cons_of_mem _ hp))
end
end
-- C3
theorem CompIn.mono {w : World} {l l' : List (Addr × Obj)} {v : Value} {c : Cmp} (h : CompIn w l v c) (hs : ∀ p ∈ l, p ∈ l') : CompIn w l' v c := by
  obtain ⟨a, d, k1, k2, k3, k4, t1, t2, t3, t4, n, e, h1, h2⟩ := h
  exact ⟨a, d, k1, k2, k3, k4, t1, t2, t3, t4, n, e, hs _ h1, hs _ h2⟩
theorem CompsIn.mono {w : World} {l l' : List (Addr × Obj)} (hs : ∀ p ∈ l, p ∈ l') : ∀ {vs : List Value} {cs : List Cmp}, CompsIn w l vs cs → CompsIn w l' vs cs
  | [], [], _ => trivial
  | _ :: _, _ :: _, h => ⟨h.1.mono hs, CompsIn.mono hs h.2⟩
  | [], _ :: _, h => h.elim
  | _ :: _, [], h => h.elim
theorem FrameIn.mono {w : World} {l l' : List (Addr × Obj)} {a : Addr} {g : Geo} (h : FrameIn w l a g) (hs : ∀ p ∈ l, p ∈ l') : FrameIn w l' a g := by
  obtain ⟨d, ll, k1, k2, k3, k4, k5, k6, t1, t2, t3, t4, t6, n, n', vs, h1, h2, h3, h4⟩ := h
  exact ⟨d, ll, k1, k2, k3, k4, k5, k6, t1, t2, t3, t4, t6, n, n', vs, hs _ h1, hs _ h2, hs _ h3, h4.mono hs⟩
/-- an object of Scan in the ledger, its places told -/
def ScanIn (w : World) (news : List (Addr × Obj)) (a : Addr) (ps : List Int) : Prop :=
  ∃ (d l ld la : Addr) (k1 k2 k3 k4 k5 k6 k7 t4 t5 t6 t7 : Tok) (n n' nd na : Nat) (vs ds as : List Value), (a, instObj 181 d) ∈ news ∧
    (d, dictOf [⟨PyData.keyHash w.params (Str.ofString "places"), .str (Str.ofString "places") k1, .ref l⟩,
      ⟨PyData.keyHash w.params (Str.ofString "dc_slots"), .str (Str.ofString "dc_slots") k2, .ref ld⟩,
      ⟨PyData.keyHash w.params (Str.ofString "ac_slots"), .str (Str.ofString "ac_slots") k3, .ref la⟩,
      ⟨PyData.keyHash w.params (Str.ofString "start"), .str (Str.ofString "start") k4, .int 0 t4⟩,
      ⟨PyData.keyHash w.params (Str.ofString "end"), .str (Str.ofString "end") k5, .int 63 t5⟩,
      ⟨PyData.keyHash w.params (Str.ofString "high"), .str (Str.ofString "high") k6, .int 0 t6⟩,
      ⟨PyData.keyHash w.params (Str.ofString "low"), .str (Str.ofString "low") k7, .int 0 t7⟩] n) ∈ news ∧
    (l, listOf vs.toArray n') ∈ news ∧ IntsAre vs ps ∧ (ld, listOf ds.toArray nd) ∈ news ∧ IntsAre ds (List.replicate ps.length 0) ∧ (la, listOf as.toArray na) ∈ news ∧ IntsAre as (List.replicate ps.length 1)
theorem ScanIn.mono {w : World} {l l' : List (Addr × Obj)} {a : Addr} {ps : List Int} (h : ScanIn w l a ps) (hs : ∀ p ∈ l, p ∈ l') : ScanIn w l' a ps := by
  obtain ⟨d, ll, ld, la, k1, k2, k3, k4, k5, k6, k7, t4, t5, t6, t7, n, n', nd, na, vs, ds, as, h1, h2, h3, h4, h5, h6, h7, h8⟩ := h
  exact ⟨d, ll, ld, la, k1, k2, k3, k4, k5, k6, k7, t4, t5, t6, t7, n, n', nd, na, vs, ds, as, hs _ h1, hs _ h2, hs _ h3, h4, hs _ h5, h6, hs _ h7, h8⟩
/-- a scan's places: one at least, each a component's, none twice -/
structure PlacesOk (k : Nat) (ps : List Int) : Prop where
  ne : ps ≠ []
  len : ps.length ≤ k
  low : ∀ p ∈ ps, 0 ≤ p ∧ p < (k : Int)
  nodup : ps.Nodup
theorem foldl_max_le {α : Type} (f : α → Int) (b : Int) : ∀ (l : List α) (x : Int), x ≤ b → (∀ c ∈ l, f c ≤ b) → l.foldl (fun x c => max x (f c)) x ≤ b
  | [], _, h, _ => h
  | c :: l, x, h, hl => foldl_max_le f b l _ (by have := hl c (by simp); simp only; omega) fun d hd => hl d (by simp [hd])
theorem foldl_max_ge {α : Type} (f : α → Int) : ∀ (l : List α) (x : Int), x ≤ l.foldl (fun x c => max x (f c)) x ∧ ∀ c ∈ l, f c ≤ l.foldl (fun x c => max x (f c)) x
  | [], x => ⟨Int.le_refl _, by simp⟩
  | c :: l, x => by
    have h := foldl_max_ge f l (max x (f c))
    refine ⟨by have := h.1; simp only [List.foldl]; omega, fun d hd => ?_⟩
    rcases List.mem_cons.mp hd with rfl | hd
    · have := h.1; simp only [List.foldl]; omega
    · exact h.2 d hd
theorem Geo.Ok.one {g : Geo} (h : g.Ok) : ∃ c, c ∈ g.comps := by
  rcases hc : g.comps with _ | ⟨c, r⟩
  · have := h.len; rw [hc] at this; simp at this
  · exact ⟨c, by simp⟩
theorem Geo.Ok.mA {g : Geo} (h : g.Ok) : 1 ≤ g.mA ∧ g.mA ≤ 4 := by
  obtain ⟨c, hc⟩ := h.one
  have h1 := (foldl_max_ge (fun c : Cmp => c.across) g.comps 0).2 c hc
  have h2 := foldl_max_le (fun c : Cmp => c.across) 4 g.comps 0 (by omega) fun d hd => (h.across d hd).2
  have h3 := h.across c hc
  unfold Geo.mA
  omega
theorem Geo.Ok.mD {g : Geo} (h : g.Ok) : 1 ≤ g.mD ∧ g.mD ≤ 4 := by
  obtain ⟨c, hc⟩ := h.one
  have h1 := (foldl_max_ge (fun c : Cmp => c.down) g.comps 0).2 c hc
  have h2 := foldl_max_le (fun c : Cmp => c.down) 4 g.comps 0 (by omega) fun d hd => (h.down d hd).2
  have h3 := h.down c hc
  unfold Geo.mD
  omega
/-- parts(many, size) -/
def prt (x y : Int) : Int := Int.fdiv (x + y - 1) y
theorem prt_bounds {x y : Int} (hx : 1 ≤ x) (hy : 1 ≤ y) : 1 ≤ prt x y ∧ prt x y ≤ x := by
  unfold prt
  rw [Int.fdiv_eq_ediv_of_nonneg _ (by omega)]
  constructor
  · rw [Int.le_ediv_iff_mul_le (by omega)]; omega
  · have h : (x + y - 1) / y < x + 1 := by
      apply Int.ediv_lt_of_lt_mul (by omega)
      have : 0 ≤ x * (y - 1) := Int.mul_nonneg (by omega) (by omega)
      have e : x * (y - 1) = x * y - x := by rw [Int.mul_sub, Int.mul_one]
      rw [Int.add_mul]; omega
    omega
theorem mul_bounds {a b A B : Int} (ha : 1 ≤ a ∧ a ≤ A) (hb : 1 ≤ b ∧ b ≤ B) : 1 ≤ a * b ∧ a * b ≤ A * B := by
  have h1 : 0 < a * b := Int.mul_pos (by omega) (by omega)
  have h2 : a * b ≤ A * B := Int.mul_le_mul ha.2 hb.2 (by omega) (by omega)
  omega
theorem news_drop {h₀ h : Heap} {L : Addr} {news news' : List (Addr × Obj)} (N : News h₀ L h news') (hs : ∀ p ∈ news, p ∈ news') : News h₀ L h news := fun p hp => N p (hs p hp)
theorem allLt_out {d : Addr} : ∀ {l : List (Addr × Obj)}, AllLt d l → ∀ p ∈ l, p.1 < d
  | [], _, p, hp => nomatch hp
  | q :: l, h, p, hp => by
    rcases List.mem_cons.mp hp with rfl | hp
    · exact h.1
    · exact allLt_out h.2 p hp
def Geo.side (g : Geo) : Int := prt g.width (8 * g.mA)
def Geo.rows (g : Geo) : Int := prt g.height (8 * g.mD)
local macro_rules | `(tactic| walk_at "call ref") => `(tactic| (k_here; (with_reducible show wpAny _ _ (call (Value.ref 63) _) _ _ _); k_dflt (refine' parts_spec (by k_asm) (by k_asm) (by k_asm) (by k_asm) (by k_asm) (by first | exact rfl | assumption) (by ktr_room) (by ktr_units) (by omega) (by omega) (by omega) (by omega) ?_; k_whole); intro t' h' tk' F' N'; (try k_fold)))
local macro_rules | `(tactic| walk_at "call ref") => `(tactic| (k_here; (with_reducible show wpAny _ _ (call (Value.ref 103) _) _ _ _); k_dflt (refine' most_across_spec (by k_asm) (by k_asm) (by k_asm) (by k_asm) (by k_asm) (by first | exact rfl | assumption) (by ktr_room) (by ktr_units) (by first | assumption | exact FrameIn.mono (by assumption) (by lcg_sub)) (by assumption) ?_; k_whole); intro t' h' tk' F' N'; (try k_fold)))
local macro_rules | `(tactic| walk_at "call ref") => `(tactic| (k_here; (with_reducible show wpAny _ _ (call (Value.ref 108) _) _ _ _); k_dflt (refine' most_down_spec (by k_asm) (by k_asm) (by k_asm) (by k_asm) (by k_asm) (by first | exact rfl | assumption) (by ktr_room) (by ktr_units) (by first | assumption | exact FrameIn.mono (by assumption) (by lcg_sub)) (by assumption) ?_; k_whole); intro t' h' tk' F' N'; (try k_fold)))
section
variable {w : World} {mean : ExcName → Option Value} {mg mb : Str → Option Value} {dp un : Nat} {gd : Option (List Code)} {cn : Str} {cs : Scope} {a : Addr} {ccd : Value} {cl : List (Str × Addr)} {outer : List Env} {A₀ : Around} {base h₀ : Heap} {L : Addr} {m : Str → Option Value} {s : Shared} {Q E : Value → Shared → Prop} {news : List (Addr × Obj)}

set_option maxHeartbeats 4000000 in
theorem mcus_across_spec {fr : Addr} {g : Geo} (B : Below A₀ base outer h₀) (F : Fr h₀ L s.heap m) (X : (hd.heap_1 w.params).In h₀) (N : News h₀ L s.heap news) (T : Top lview (looseW lview []) mean mg mb h₀) (hk : cs.kind = .function)
    (hdp : dp + 4 < recursionLimit) (hun : un + 32 < cLine)
    (hf : FrameIn w news fr g) (hg : g.Ok)
    (hret : ∀ t h' tk', Fr h₀ L h' m → News h₀ L h' news → Q (.int g.side t) { s with heap := h', toks := tk' }) :
    wpAny (model PySem.Challenge.rw_pf0231_01.row.prog w) (ktrTop dp un gd cn cs L a ccd cl outer) (call (.ref 115) [.ref fr]) Q E s := by
  w_on
  have hz : PySem.Challenge.rw_pf0231_01 = PySem.Challenge.rw_pf0231_01 ∧ hd.heap_1 = hd.heap_1 := by
    k_fill
    exact ⟨rfl, rfl⟩
  clear hz
  obtain ⟨d, l, k1, k2, k3, k4, k5, k6, t1, t2, t3, t4, t6, n, n', vs, h1, h2, h3, h4⟩ := id hf
  have hA := hg.mA
  have hD := hg.mD
  have hw := hg.width
  have hh := hg.height
  refine wpAny_call ?_
  k_dflt ktr_enter
  k_steps
  exact hret _ _ _ (by assumption) (by assumption)

set_option maxHeartbeats 4000000 in
theorem mcus_down_spec {fr : Addr} {g : Geo} (B : Below A₀ base outer h₀) (F : Fr h₀ L s.heap m) (X : (hd.heap_1 w.params).In h₀) (N : News h₀ L s.heap news) (T : Top lview (looseW lview []) mean mg mb h₀) (hk : cs.kind = .function)
    (hdp : dp + 4 < recursionLimit) (hun : un + 32 < cLine)
    (hf : FrameIn w news fr g) (hg : g.Ok)
    (hret : ∀ t h' tk', Fr h₀ L h' m → News h₀ L h' news → Q (.int g.rows t) { s with heap := h', toks := tk' }) :
    wpAny (model PySem.Challenge.rw_pf0231_01.row.prog w) (ktrTop dp un gd cn cs L a ccd cl outer) (call (.ref 122) [.ref fr]) Q E s := by
  w_on
  have hz : PySem.Challenge.rw_pf0231_01 = PySem.Challenge.rw_pf0231_01 ∧ hd.heap_1 = hd.heap_1 := by
    k_fill
    exact ⟨rfl, rfl⟩
  clear hz
  obtain ⟨d, l, k1, k2, k3, k4, k5, k6, t1, t2, t3, t4, t6, n, n', vs, h1, h2, h3, h4⟩ := id hf
  have hA := hg.mA
  have hD := hg.mD
  have hw := hg.width
  have hh := hg.height
  refine wpAny_call ?_
  k_dflt ktr_enter
  k_steps
  exact hret _ _ _ (by assumption) (by assumption)
end

theorem CompsIn.get {w : World} {l : List (Addr × Obj)} : ∀ {vs : List Value} {cs : List Cmp}, CompsIn w l vs cs → ∀ {k : Nat} {c : Cmp}, cs[k]? = some c → ∃ v, vs[k]? = some v ∧ CompIn w l v c
  | [], [], _, k, c, hc => by simp at hc
  | v :: vs, c' :: cs, h, 0, c, hc => by simp at hc; subst hc; exact ⟨v, rfl, h.1⟩
  | v :: vs, c' :: cs, h, k + 1, c, hc => by simpa using CompsIn.get h.2 (k := k) (by simpa using hc)
  | [], _ :: _, h, _, _, _ => h.elim
  | _ :: _, [], h, _, _, _ => h.elim
theorem item_in {prog : Program} {w : World} {A : Around} {E : Value → Shared → Prop} {s : Shared} {h₀ : Heap} {L : Addr} {news : List (Addr × Obj)} {value slice : PySem.Expr} {l : Addr} {vs : List Value} {n : Nat} {k : Int} {u : Tok} {v : Value} {Q : Value → Shared → Prop}
    (N : News h₀ L s.heap news) (hm : (l, listOf vs.toArray n) ∈ news) (hx : vs[k.toNat]? = some v) (h0 : 0 ≤ k) (hhi : k < 2 ^ 63) (h : Q v s)
    (hs : subscripted slice false (.ref l) (.int k u) = operate [.ref l, .int k u] (getItem (.ref l) (.int k u)) := by with_unfolding_all rfl) :
    wpAny (model prog w) A (subscriptTail value slice (.ref l) (.int k u)) Q E s :=
  have hl : s.heap.IsList l vs.toArray := ⟨_, (N _ hm).1, rfl, n, rfl⟩
  tail_any hl.typeIs slot_list_getitem.lookup (wpAny_getItem_list hl h0 hhi (by simpa using hx) h) hs
local macro_rules | `(tactic| walk_at "subscriptTail") => `(tactic| (k_here; (with_reducible show wpAny _ _ (subscriptTail _ _ (Value.ref _) (Value.int _ _)) _ _ _); (with_unfolding_all refine' item_in (by k_asm) (by k_mem) (by assumption) (by omega) (by omega) ?_ (by with_unfolding_all rfl); k_whole)))
section
variable {w : World} {mean : ExcName → Option Value} {mg mb : Str → Option Value} {dp un : Nat} {gd : Option (List Code)} {cn : Str} {cs : Scope} {a : Addr} {ccd : Value} {cl : List (Str × Addr)} {outer : List Env} {A₀ : Around} {base h₀ : Heap} {L : Addr} {m : Str → Option Value} {s : Shared} {Q E : Value → Shared → Prop} {news : List (Addr × Obj)}

/-- what plane_size hands back -/
def psW (g : Geo) (c : Cmp) : Int := prt (g.width * c.across) g.mA
def psH (g : Geo) (c : Cmp) : Int := prt (g.height * c.down) g.mD
set_option maxHeartbeats 4000000 in
theorem plane_size_spec {fr : Addr} {g : Geo} {p : Int} {tp : Tok} {c : Cmp} (B : Below A₀ base outer h₀) (F : Fr h₀ L s.heap m) (X : (hd.heap_1 w.params).In h₀) (N : News h₀ L s.heap news) (T : Top lview (looseW lview []) mean mg mb h₀) (hk : cs.kind = .function)
    (hdp : dp + 4 < recursionLimit) (hun : un + 32 < cLine)
    (hf : FrameIn w news fr g) (hg : g.Ok) (hp : 0 ≤ p) (hp2 : p < 3) (hc : g.comps[p.toNat]? = some c)
    (hret : ∀ t t1 t2 n h' tk', Fr h₀ L h' m → News h₀ L h' ((t, { cls := .type "tuple", data := .seq #[.int (psW g c) t1, .int (psH g c) t2] n }) :: news) → (∀ q ∈ news, q.1 < t) → Q (.ref t) { s with heap := h', toks := tk' }) :
    wpAny (model PySem.Challenge.rw_pf0231_01.row.prog w) (ktrTop dp un gd cn cs L a ccd cl outer) (call (.ref 129) [.ref fr, .int p tp]) Q E s := by
  w_on
  have hz : PySem.Challenge.rw_pf0231_01 = PySem.Challenge.rw_pf0231_01 ∧ hd.heap_1 = hd.heap_1 := by
    k_fill
    exact ⟨rfl, rfl⟩
  clear hz
  obtain ⟨d, l, k1, k2, k3, k4, k5, k6, t1, t2, t3, t4, t6, n, n', vs, h1, h2, h3, h4⟩ := id hf
  have hA := hg.mA
  have hD := hg.mD
  have hw := hg.width
  have hh := hg.height
  obtain ⟨v, hv, ⟨ca, cd, _, _, _, _, _, _, _, _, _, rfl, ha0, hd0⟩⟩ := h4.get hc
  have hcm := List.mem_of_getElem? hc
  have hca := hg.across c hcm
  have hcd := hg.down c hcm
  have hwc := mul_bounds hw hca
  have hhc := mul_bounds hh hcd
  refine wpAny_call ?_
  k_dflt ktr_enter
  k_steps
  exact hret _ _ _ _ _ _ (by assumption) (by assumption) (by assumption)
end
local macro_rules | `(tactic| walk_at "call ref") => `(tactic| (k_here; (with_reducible show wpAny _ _ (call (Value.ref 129) _) _ _ _); k_dflt (refine' plane_size_spec (by k_asm) (by k_asm) (by k_asm) (by k_asm) (by k_asm) (by first | exact rfl | assumption) (by ktr_room) (by ktr_units) (by first | assumption | exact FrameIn.mono (by assumption) (by lcg_sub)) (by assumption) (by omega) (by omega) (by assumption) ?_; k_whole); intro t' t1' t2' n' h' tk' F' N' l1'; (try k_fold)))
section
variable {w : World} {mean : ExcName → Option Value} {mg mb : Str → Option Value} {dp un : Nat} {gd : Option (List Code)} {cn : Str} {cs : Scope} {a : Addr} {ccd : Value} {cl : List (Str × Addr)} {outer : List Env} {A₀ : Around} {base h₀ : Heap} {L : Addr} {m : Str → Option Value} {s : Shared} {Q E : Value → Shared → Prop} {news : List (Addr × Obj)}

def bW (g : Geo) (c : Cmp) : Int := prt (psW g c) 8
def bH (g : Geo) (c : Cmp) : Int := prt (psH g c) 8
theorem psW_bounds {g : Geo} (hg : g.Ok) {c : Cmp} (hc : c ∈ g.comps) : 1 ≤ psW g c ∧ psW g c ≤ 256 := by
  have h1 := mul_bounds hg.width (hg.across c hc)
  have h2 := prt_bounds h1.1 hg.mA.1
  unfold psW
  omega
theorem psH_bounds {g : Geo} (hg : g.Ok) {c : Cmp} (hc : c ∈ g.comps) : 1 ≤ psH g c ∧ psH g c ≤ 256 := by
  have h1 := mul_bounds hg.height (hg.down c hc)
  have h2 := prt_bounds h1.1 hg.mD.1
  unfold psH
  omega
set_option maxHeartbeats 4000000 in
theorem blocks_spec {fr : Addr} {g : Geo} {p : Int} {tp : Tok} {c : Cmp} (B : Below A₀ base outer h₀) (F : Fr h₀ L s.heap m) (X : (hd.heap_1 w.params).In h₀) (N : News h₀ L s.heap news) (T : Top lview (looseW lview []) mean mg mb h₀) (hk : cs.kind = .function)
    (hdp : dp + 6 < recursionLimit) (hun : un + 48 < cLine)
    (hf : FrameIn w news fr g) (hg : g.Ok) (hp : 0 ≤ p) (hp2 : p < 3) (hc : g.comps[p.toNat]? = some c)
    (hret : ∀ t t1 t2 n h' tk', Fr h₀ L h' m → News h₀ L h' ((t, { cls := .type "tuple", data := .seq #[.int (bW g c) t1, .int (bH g c) t2] n }) :: news) → (∀ q ∈ news, q.1 < t) → Q (.ref t) { s with heap := h', toks := tk' }) :
    wpAny (model PySem.Challenge.rw_pf0231_01.row.prog w) (ktrTop dp un gd cn cs L a ccd cl outer) (call (.ref 136) [.ref fr, .int p tp]) Q E s := by
  w_on
  have hz : PySem.Challenge.rw_pf0231_01 = PySem.Challenge.rw_pf0231_01 ∧ hd.heap_1 = hd.heap_1 := by
    k_fill
    exact ⟨rfl, rfl⟩
  clear hz
  obtain ⟨d, l, k1, k2, k3, k4, k5, k6, t1, t2, t3, t4, t6, n, n', vs, h1, h2, h3, h4⟩ := id hf
  have hcm := List.mem_of_getElem? hc
  have hpw := psW_bounds hg hcm
  have hph := psH_bounds hg hcm
  refine wpAny_call ?_
  k_dflt ktr_enter
  k_steps
  rename_i l1 kF kN _ _
  exact hret _ _ _ _ _ _ kF (news_drop kN (by lcg_sub)) (allLt_out l1.2)
end
-- C4
theorem len_in {prog : Program} {w : World} {A : Around} {E : Value → Shared → Prop} {s : Shared} {h₀ : Heap} {L : Addr} {news : List (Addr × Obj)} {l : Addr} {vs : List Value} {n : Nat} {k : Int} {Q : Value → Shared → Prop}
    (N : News h₀ L s.heap news) (hm : (l, listOf vs.toArray n) ∈ news) (hk : (vs.length : Int) = k) (hhi : k < 2 ^ 63) (h : Q (.int k (s.toks + 1)) { s with toks := s.toks + 1 + 1 }) :
    wpAny (model prog w) A (call (.builtin "len") [.ref l]) Q E s := by
  subst hk
  have hl : s.heap.IsList l vs.toArray := ⟨_, (N _ hm).1, rfl, n, rfl⟩
  exact len_list hl (by simpa using hhi) (by simpa using h)
local macro_rules | `(tactic| walk_at "call builtin:len") => `(tactic| (k_here; (with_reducible show wpAny _ _ (call (Value.builtin "len") [Value.ref _]) _ _ _); k_dflt (refine' len_in (by k_asm) (by k_mem) (by assumption) (by omega) ?_; k_whole)))
theorem PlacesOk.pos {k : Nat} {ps : List Int} (h : PlacesOk k ps) : 1 ≤ ps.length := by
  have := h.ne
  rcases ps with _ | ⟨p, r⟩
  · exact absurd rfl this
  · simp
/-- the component of a place -/
def Geo.at (g : Geo) (p : Int) : Cmp := g.comps[p.toNat]?.getD ⟨0, 1, 1, 0⟩
theorem Geo.at_get {g : Geo} {ps : List Int} (hp : PlacesOk g.comps.length ps) {p : Int} (h : p ∈ ps) : g.comps[p.toNat]? = some (g.at p) := by
  have := hp.low p h
  unfold Geo.at
  rw [List.getElem?_eq_getElem (by omega)]
  rfl
theorem Geo.at_mem {g : Geo} {ps : List Int} (hp : PlacesOk g.comps.length ps) {p : Int} (h : p ∈ ps) : g.at p ∈ g.comps := List.mem_of_getElem? (Geo.at_get hp h)
def uA (g : Geo) (ps : List Int) : Int := if ps.length = 1 then bW g (g.at (ps.getD 0 0)) else g.side
def uD (g : Geo) (ps : List Int) : Int := if ps.length = 1 then bH g (g.at (ps.getD 0 0)) else g.rows
section
variable {w : World} {mean : ExcName → Option Value} {mg mb : Str → Option Value} {dp un : Nat} {gd : Option (List Code)} {cn : Str} {cs : Scope} {a : Addr} {ccd : Value} {cl : List (Str × Addr)} {outer : List Env} {A₀ : Around} {base h₀ : Heap} {L : Addr} {m : Str → Option Value} {s : Shared} {Q E : Value → Shared → Prop} {news : List (Addr × Obj)}

set_option maxHeartbeats 4000000 in
theorem is_alone_spec {sc : Addr} {ps : List Int} (B : Below A₀ base outer h₀) (F : Fr h₀ L s.heap m) (X : (hd.heap_1 w.params).In h₀) (N : News h₀ L s.heap news) (T : Top lview (looseW lview []) mean mg mb h₀) (hk : cs.kind = .function)
    (hdp : dp + 2 < recursionLimit) (hun : un + 16 < cLine)
    (hs : ScanIn w news sc ps) (hp : ps.length ≤ 3)
    (hret : ∀ h' tk', Fr h₀ L h' m → News h₀ L h' news → Q (.bool (decide (ps.length = 1))) { s with heap := h', toks := tk' }) :
    wpAny (model PySem.Challenge.rw_pf0231_01.row.prog w) (ktrTop dp un gd cn cs L a ccd cl outer) (call (.ref 171) [.ref sc]) Q E s := by
  w_on
  have hz : PySem.Challenge.rw_pf0231_01 = PySem.Challenge.rw_pf0231_01 ∧ hd.heap_1 = hd.heap_1 := by
    k_fill
    exact ⟨rfl, rfl⟩
  clear hz
  obtain ⟨sd, sl, ld, la, q1, q2, q3, q4, q5, q6, q7, u4, u5, u6, u7, sn, sn', nd, na, sv, ds, as, s1, s2, s3, s4, s5, s6, s7, s8⟩ := id hs
  have hvl : (sv.length : Int) = (ps.length : Int) := by rw [s4.length]
  refine wpAny_call ?_
  k_dflt ktr_enter
  k_steps
  rename_i kF kN _ _
  have e : ((ps.length : Int) == 1) = decide (ps.length = 1) := by
    by_cases h : ps.length = 1
    · rw [h]; rfl
    · rw [decide_eq_false h]; simp; omega
  rw [e]
  exact hret _ _ kF kN
theorem is_alone_one {sc : Addr} {ps : List Int} (B : Below A₀ base outer h₀) (F : Fr h₀ L s.heap m) (X : (hd.heap_1 w.params).In h₀) (N : News h₀ L s.heap news) (T : Top lview (looseW lview []) mean mg mb h₀) (hk : cs.kind = .function)
    (hdp : dp + 2 < recursionLimit) (hun : un + 16 < cLine)
    (hs : ScanIn w news sc ps) (hp : ps.length = 1)
    (hret : ∀ h' tk', Fr h₀ L h' m → News h₀ L h' news → Q (.bool true) { s with heap := h', toks := tk' }) :
    wpAny (model PySem.Challenge.rw_pf0231_01.row.prog w) (ktrTop dp un gd cn cs L a ccd cl outer) (call (.ref 171) [.ref sc]) Q E s :=
  is_alone_spec B F X N T hk hdp hun hs (by omega) (by rw [hp]; exact hret)
theorem is_alone_many {sc : Addr} {ps : List Int} (B : Below A₀ base outer h₀) (F : Fr h₀ L s.heap m) (X : (hd.heap_1 w.params).In h₀) (N : News h₀ L s.heap news) (T : Top lview (looseW lview []) mean mg mb h₀) (hk : cs.kind = .function)
    (hdp : dp + 2 < recursionLimit) (hun : un + 16 < cLine)
    (hs : ScanIn w news sc ps) (hp : ps.length ≠ 1) (hp3 : ps.length ≤ 3)
    (hret : ∀ h' tk', Fr h₀ L h' m → News h₀ L h' news → Q (.bool false) { s with heap := h', toks := tk' }) :
    wpAny (model PySem.Challenge.rw_pf0231_01.row.prog w) (ktrTop dp un gd cn cs L a ccd cl outer) (call (.ref 171) [.ref sc]) Q E s :=
  is_alone_spec B F X N T hk hdp hun hs hp3 (by rw [decide_eq_false hp]; exact hret)
end
local macro_rules | `(tactic| walk_at "call ref") => `(tactic| (k_here; (with_reducible show wpAny _ _ (call (Value.ref 171) _) _ _ _); k_dflt (refine' is_alone_one (by k_asm) (by k_asm) (by k_asm) (by k_asm) (by k_asm) (by first | exact rfl | assumption) (by ktr_room) (by ktr_units) (by first | assumption | exact ScanIn.mono (by assumption) (by lcg_sub)) (by assumption) ?_; k_whole); intro h' tk' F' N'; (try k_fold)))
local macro_rules | `(tactic| walk_at "call ref") => `(tactic| (k_here; (with_reducible show wpAny _ _ (call (Value.ref 171) _) _ _ _); k_dflt (refine' is_alone_many (by k_asm) (by k_asm) (by k_asm) (by k_asm) (by k_asm) (by first | exact rfl | assumption) (by ktr_room) (by ktr_units) (by first | assumption | exact ScanIn.mono (by assumption) (by lcg_sub)) (by assumption) (by omega) ?_; k_whole); intro h' tk' F' N'; (try k_fold)))
local macro_rules | `(tactic| walk_at "call ref") => `(tactic| (k_here; (with_reducible show wpAny _ _ (call (Value.ref 115) _) _ _ _); k_dflt (refine' mcus_across_spec (by k_asm) (by k_asm) (by k_asm) (by k_asm) (by k_asm) (by first | exact rfl | assumption) (by ktr_room) (by ktr_units) (by first | assumption | exact FrameIn.mono (by assumption) (by lcg_sub)) (by assumption) ?_; k_whole); intro t' h' tk' F' N'; (try k_fold)))
local macro_rules | `(tactic| walk_at "call ref") => `(tactic| (k_here; (with_reducible show wpAny _ _ (call (Value.ref 122) _) _ _ _); k_dflt (refine' mcus_down_spec (by k_asm) (by k_asm) (by k_asm) (by k_asm) (by k_asm) (by first | exact rfl | assumption) (by ktr_room) (by ktr_units) (by first | assumption | exact FrameIn.mono (by assumption) (by lcg_sub)) (by assumption) ?_; k_whole); intro t' h' tk' F' N'; (try k_fold)))
local macro_rules | `(tactic| walk_at "call ref") => `(tactic| (k_here; (with_reducible show wpAny _ _ (call (Value.ref 136) _) _ _ _); k_dflt (refine' blocks_spec (by k_asm) (by k_asm) (by k_asm) (by k_asm) (by k_asm) (by first | exact rfl | assumption) (by ktr_room) (by ktr_units) (by first | assumption | exact FrameIn.mono (by assumption) (by lcg_sub)) (by assumption) (by omega) (by omega) (by assumption) ?_; k_whole); intro t' t1' t2' n' h' tk' F' N' l1'; (try k_fold)))
section
variable {w : World} {mean : ExcName → Option Value} {mg mb : Str → Option Value} {dp un : Nat} {gd : Option (List Code)} {cn : Str} {cs : Scope} {a : Addr} {ccd : Value} {cl : List (Str × Addr)} {outer : List Env} {A₀ : Around} {base h₀ : Heap} {L : Addr} {m : Str → Option Value} {s : Shared} {Q E : Value → Shared → Prop} {news : List (Addr × Obj)}

theorem bW_bounds {g : Geo} (hg : g.Ok) {c : Cmp} (hc : c ∈ g.comps) : 1 ≤ bW g c ∧ bW g c ≤ 256 := by
  have h1 := psW_bounds hg hc
  have h2 := prt_bounds (x := psW g c) (y := 8) h1.1 (by omega)
  unfold bW
  omega
theorem bH_bounds {g : Geo} (hg : g.Ok) {c : Cmp} (hc : c ∈ g.comps) : 1 ≤ bH g c ∧ bH g c ≤ 256 := by
  have h1 := psH_bounds hg hc
  have h2 := prt_bounds (x := psH g c) (y := 8) h1.1 (by omega)
  unfold bH
  omega
theorem at_one {g : Geo} {ps : List Int} (hp : PlacesOk g.comps.length ps) (h1 : ps.length = 1) : ∃ p, ps = [p] ∧ ps.getD 0 0 = p ∧ 0 ≤ p ∧ p < (g.comps.length : Int) ∧ g.comps[p.toNat]? = some (g.at p) := by
  rcases ps with _ | ⟨p, _ | ⟨q, r⟩⟩
  · simp at h1
  · exact ⟨p, rfl, rfl, (hp.low p (by simp)).1, (hp.low p (by simp)).2, Geo.at_get hp (by simp)⟩
  · simp at h1

set_option maxHeartbeats 4000000 in
theorem units_across_spec {fr sc : Addr} {g : Geo} {ps : List Int} (B : Below A₀ base outer h₀) (F : Fr h₀ L s.heap m) (X : (hd.heap_1 w.params).In h₀) (N : News h₀ L s.heap news) (T : Top lview (looseW lview []) mean mg mb h₀) (hk : cs.kind = .function)
    (hdp : dp + 8 < recursionLimit) (hun : un + 64 < cLine)
    (hf : FrameIn w news fr g) (hg : g.Ok) (hs : ScanIn w news sc ps) (hp : PlacesOk g.comps.length ps)
    (hret : ∀ t h' tk', Fr h₀ L h' m → News h₀ L h' news → Q (.int (uA g ps) t) { s with heap := h', toks := tk' }) :
    wpAny (model PySem.Challenge.rw_pf0231_01.row.prog w) (ktrTop dp un gd cn cs L a ccd cl outer) (call (.ref 28) [.ref fr, .ref sc]) Q E s := by
  w_on
  have hz : PySem.Challenge.rw_pf0231_01 = PySem.Challenge.rw_pf0231_01 ∧ hd.heap_1 = hd.heap_1 := by
    k_fill
    exact ⟨rfl, rfl⟩
  clear hz
  obtain ⟨sd, sl, ld, la, q1, q2, q3, q4, q5, q6, q7, u4, u5, u6, u7, sn, sn', nd, na, sv, ds, as, s1, s2, s3, s4, s5, s6, s7, s8⟩ := id hs
  obtain ⟨d, l, k1, k2, k3, k4, k5, k6, t1, t2, t3, t4, t6, n, n', vs, h1, h2, h3, h4⟩ := id hf
  have hvl : (sv.length : Int) = (ps.length : Int) := by rw [s4.length]
  have hl3 := hg.len
  have hpl := hp.len
  by_cases hal : ps.length = 1
  · obtain ⟨p, rfl, hp0, hp1, hp2, hpc⟩ := at_one hp hal
    obtain ⟨tp, hvp⟩ := s4.get 0 p rfl
    have hvp' : sv[(0 : Int).toNat]? = some (.int p tp) := hvp
    have hbW := bW_bounds hg (List.mem_of_getElem? hpc)
    have hbH := bH_bounds hg (List.mem_of_getElem? hpc)
    have eA : uA g [p] = bW g (g.at p) := rfl
    have eD : uD g [p] = bH g (g.at p) := rfl
    try rw [eD] at hret
    rw [eA] at hret
    refine wpAny_call ?_
    k_dflt ktr_enter
    k_steps
    rename_i kF kN _ _
    exact hret _ _ _ kF (news_drop kN (by lcg_sub))
  · have eA : uA g ps = g.side := if_neg hal
    have eD : uD g ps = g.rows := if_neg hal
    try rw [eD] at hret
    rw [eA] at hret
    have hs1 : 1 ≤ g.side ∧ g.side ≤ g.width := prt_bounds hg.width.1 (by have := hg.mA.1; omega)
    have hs2 : 1 ≤ g.rows ∧ g.rows ≤ g.height := prt_bounds hg.height.1 (by have := hg.mD.1; omega)
    have hw := hg.width
    have hh := hg.height
    refine wpAny_call ?_
    k_dflt ktr_enter
    k_steps
    rename_i kF kN _ _
    exact hret _ _ _ kF (news_drop kN (by lcg_sub))

set_option maxHeartbeats 4000000 in
theorem unit_count_spec {fr sc : Addr} {g : Geo} {ps : List Int} (B : Below A₀ base outer h₀) (F : Fr h₀ L s.heap m) (X : (hd.heap_1 w.params).In h₀) (N : News h₀ L s.heap news) (T : Top lview (looseW lview []) mean mg mb h₀) (hk : cs.kind = .function)
    (hdp : dp + 8 < recursionLimit) (hun : un + 64 < cLine)
    (hf : FrameIn w news fr g) (hg : g.Ok) (hs : ScanIn w news sc ps) (hp : PlacesOk g.comps.length ps)
    (hret : ∀ t h' tk', Fr h₀ L h' m → News h₀ L h' news → Q (.int (uA g ps * uD g ps) t) { s with heap := h', toks := tk' }) :
    wpAny (model PySem.Challenge.rw_pf0231_01.row.prog w) (ktrTop dp un gd cn cs L a ccd cl outer) (call (.ref 35) [.ref fr, .ref sc]) Q E s := by
  w_on
  have hz : PySem.Challenge.rw_pf0231_01 = PySem.Challenge.rw_pf0231_01 ∧ hd.heap_1 = hd.heap_1 := by
    k_fill
    exact ⟨rfl, rfl⟩
  clear hz
  obtain ⟨sd, sl, ld, la, q1, q2, q3, q4, q5, q6, q7, u4, u5, u6, u7, sn, sn', nd, na, sv, ds, as, s1, s2, s3, s4, s5, s6, s7, s8⟩ := id hs
  obtain ⟨d, l, k1, k2, k3, k4, k5, k6, t1, t2, t3, t4, t6, n, n', vs, h1, h2, h3, h4⟩ := id hf
  have hvl : (sv.length : Int) = (ps.length : Int) := by rw [s4.length]
  have hl3 := hg.len
  have hpl := hp.len
  by_cases hal : ps.length = 1
  · obtain ⟨p, rfl, hp0, hp1, hp2, hpc⟩ := at_one hp hal
    obtain ⟨tp, hvp⟩ := s4.get 0 p rfl
    have hvp' : sv[(0 : Int).toNat]? = some (.int p tp) := hvp
    have hbW := bW_bounds hg (List.mem_of_getElem? hpc)
    have hbH := bH_bounds hg (List.mem_of_getElem? hpc)
    have eA : uA g [p] = bW g (g.at p) := rfl
    have eD : uD g [p] = bH g (g.at p) := rfl
    try rw [eD] at hret
    rw [eA] at hret
    refine wpAny_call ?_
    k_dflt ktr_enter
    k_steps
    rename_i kF kN _ _
    exact hret _ _ _ kF (news_drop kN (by lcg_sub))
  · have eA : uA g ps = g.side := if_neg hal
    have eD : uD g ps = g.rows := if_neg hal
    try rw [eD] at hret
    rw [eA] at hret
    have hs1 : 1 ≤ g.side ∧ g.side ≤ g.width := prt_bounds hg.width.1 (by have := hg.mA.1; omega)
    have hs2 : 1 ≤ g.rows ∧ g.rows ≤ g.height := prt_bounds hg.height.1 (by have := hg.mD.1; omega)
    have hw := hg.width
    have hh := hg.height
    refine wpAny_call ?_
    k_dflt ktr_enter
    k_steps
    rename_i kF kN _ _
    exact hret _ _ _ kF (news_drop kN (by lcg_sub))
end
-- C5
local macro_rules | `(tactic| walk_at "exec For Name Call cons nil") => `(tactic| (k_here; (rename Fr _ _ _ _ => lF'); (with_unfolding_all refine' For_mine lF' (by exact rfl) (by exact rfl) ?_; k_whole)))
local macro_rules | `(tactic| walk_at "call builtin:list.append") => `(tactic| (k_here; (try simp only [List.cons_append, List.nil_append]); k_dflt (refine' append_K (by k_asm) (by k_asm) (by k_upd) ?_ (by (rw [sizeLine_eq]; first | omega | (unfold Array.size; dsimp only; omega))); k_whole); intro h' F' N'; (try k_sweep)))

abbrev Blk := Int × Int × Int × Int
def blkD (b : Blk) : Dat := .tuple [.int b.1, .int b.2.1, .int b.2.2.1, .int b.2.2.2]
def blkA (i : Nat) (p : Int) (c : Cmp) (x y : Int) (d : Nat) (a : Nat) : Blk := ((i : Int), p, x * c.across + (a : Int), y * c.down + (d : Int))
def blkR (i : Nat) (p : Int) (c : Cmp) (x y : Int) (d : Nat) : List Blk := (List.range c.across.toNat).map (blkA i p c x y d)
def blkC (g : Geo) (ps : List Int) (x y : Int) (i : Nat) : List Blk := (List.range (g.at (ps.getD i 0)).down.toNat).flatMap (blkR i (ps.getD i 0) (g.at (ps.getD i 0)) x y)
/-- the blocks of a unit -/
def unitBs (g : Geo) (ps : List Int) (x y : Int) : List Blk := if ps.length = 1 then [(0, ps.getD 0 0, x, y)] else (List.range ps.length).flatMap (blkC g ps x y)
theorem rangeSize_toNat {b : Int} (h : 0 ≤ b) : Builtin.Range.rangeSize 0 b 1 = (b.toNat : Int) := by
  have e : b = (b.toNat : Int) := by omega
  rw [e, Int.toNat_natCast]
  exact rangeSize_nat 0 b.toNat
theorem news_rot3 {h₀ h : Heap} {L : Addr} {a b c : Addr × Obj} {T : List (Addr × Obj)} (N : News h₀ L h (a :: b :: c :: T)) : News h₀ L h (c :: a :: b :: T) := fun p hp => N p (by
  simp only [List.mem_cons] at hp ⊢
  rcases hp with hp | hp | hp | hp <;> simp [hp])
/-- the list that a loop fills -/
structure Fill where
  vs : List Value
  n : Nat
  fz : List (Addr × Obj)
  bs : List Blk
section
variable {w : World} {mean : ExcName → Option Value} {mg mb : Str → Option Value} {dp un : Nat} {gd : Option (List Code)} {cn : Str} {cs : Scope} {a : Addr} {ccd : Value} {cl : List (Str × Addr)} {outer : List Env} {A₀ : Around} {base h₀ : Heap} {L : Addr} {m : Str → Option Value} {s : Shared} {Q E : Value → Shared → Prop} {news : List (Addr × Obj)}

set_option maxHeartbeats 4000000 in
theorem unit_at_spec {fr sc : Addr} {g : Geo} {ps : List Int} {x y : Int} {tx ty : Tok} (B : Below A₀ base outer h₀) (F : Fr h₀ L s.heap m) (X : (hd.heap_1 w.params).In h₀) (N : News h₀ L s.heap news) (T : Top lview (looseW lview []) mean mg mb h₀) (hk : cs.kind = .function)
    (hdp : dp + 4 < recursionLimit) (hun : un + 32 < cLine)
    (hf : FrameIn w news fr g) (hg : g.Ok) (hs : ScanIn w news sc ps) (hp : PlacesOk g.comps.length ps) (hx : 0 ≤ x ∧ x < 1000) (hy : 0 ≤ y ∧ y < 1000)
    (hret : ∀ r new h' tk', Fr h₀ L h' m → News h₀ L h' (new ++ news) → Apart new news → DatIn new (.ref r) (.list ((unitBs g ps x y).map blkD)) → Q (.ref r) { s with heap := h', toks := tk' }) :
    wpAny (model PySem.Challenge.rw_pf0231_01.row.prog w) (ktrTop dp un gd cn cs L a ccd cl outer) (call (.ref 42) [.ref fr, .ref sc, .int x tx, .int y ty]) Q E s := by
  w_on
  have hz : PySem.Challenge.rw_pf0231_01 = PySem.Challenge.rw_pf0231_01 ∧ hd.heap_1 = hd.heap_1 := by
    k_fill
    exact ⟨rfl, rfl⟩
  clear hz
  obtain ⟨sd, sl, ld, la, q1, q2, q3, q4, q5, q6, q7, u4, u5, u6, u7, sn, sn', nd, na, sv, ds, as, s1, s2, s3, s4, s5, s6, s7, s8⟩ := id hs
  obtain ⟨d, l, k1, k2, k3, k4, k5, k6, t1, t2, t3, t4, t6, n, n', vs, h1, h2, h3, h4⟩ := id hf
  have hvl : (sv.length : Int) = (ps.length : Int) := by rw [s4.length]
  have hl3 := hg.len
  have hpl := hp.len
  have hpp := hp.pos
  by_cases hal : ps.length = 1
  · obtain ⟨p, rfl, hp0, hp1, hp2, hpc⟩ := at_one hp hal
    obtain ⟨tp, hvp⟩ := s4.get 0 p rfl
    have hvp' : sv[(0 : Int).toNat]? = some (.int p tp) := hvp
    refine wpAny_call ?_
    k_dflt ktr_enter
    k_steps
    rename_i l1 _ _ _ _ lt2 kF kN _ _
    refine hret _ [(_, _), (_, _)] _ _ kF kN ?_ ?_
    · intro q hq p hp
      rcases List.mem_cons.mp hq with rfl | hq
      · exact Nat.ne_of_lt (allLt_out lt2.2 p hp)
      · rcases List.mem_cons.mp hq with rfl | hq
        · exact Nat.ne_of_lt (l1 p hp)
        · cases hq
    · exact .list (List.mem_cons_self) (.cons (.tuple (vs := [.int 0 _, .int p _, .int x _, .int y _]) (List.mem_cons_of_mem _ List.mem_cons_self) (.cons (.int _ _) (.cons (.int _ _) (.cons (.int _ _) (.cons (.int _ _) .nil))))) .nil)
  · refine wpAny_call ?_
    k_dflt ktr_enter
    k_steps
    rename_i fl _ l1 _ _ _ _ hh tk1 rt ru rv hR hF hN hK
    unfold MyLoop
    refine for_rng (σ := Fill) (n := ps.length) (fun c => [(fl, listOf c.vs.toArray c.n)]) [fl] Fill.fz (fun _ => []) [Str.ofString "component", Str.ofString "down", Str.ofString "across", Str.ofString "spot"]
      (fun i c => c.bs = (List.range i).flatMap (blkC g ps x y) ∧ DatAll c.fz c.vs (c.bs.map blkD) ∧ c.vs.length ≤ 16 * i) news ⟨[], 0, [], []⟩ rfl hR (small_one (by omega) (by omega) (by omega) (by omega)) (rangeSize_nat _ _) hF hN (fun _ h => h) (fun _ => rfl)
      (fun p hp => by simpa using Nat.ne_of_lt (l1 p hp)) (fun _ h => nomatch h) (fun _ h => nomatch h) ⟨rfl, .nil, Nat.zero_le _⟩ ?turn ?done
    case turn =>
      intro i c T' u t h tk hi hP hz hD hT F3 N3
      simp only [Int.zero_add, List.cons_append, List.nil_append] at F3 N3
      dsimp only [envOf] at F3 N3
      have hpi : ps[i]? = some (ps.getD i 0) := by rw [List.getD_eq_getElem?_getD, List.getElem?_eq_getElem hi]; rfl
      have hpm : ps.getD i 0 ∈ ps := List.mem_of_getElem? hpi
      obtain ⟨tp, hvp⟩ := s4.get i _ hpi
      have hvi : sv[((i : Nat) : Int).toNat]? = some (.int (ps.getD i 0) tp) := by simpa using hvp
      have hlow := hp.low _ hpm
      obtain ⟨v, hv, ⟨ca, cd, _, _, _, _, _, _, _, _, _, rfl, ha0, hd0⟩⟩ := h4.get (Geo.at_get hp hpm)
      have hcm := Geo.at_mem hp hpm
      have hca := hg.across _ hcm
      have hcd := hg.down _ hcm
      have hne : ∀ p ∈ T', p.1 ≠ fl := fun p hp => by simpa using hD p hp
      obtain ⟨hPb, hPd, hPl⟩ := hP
      replace h1 := hT _ h1
      replace h2 := hT _ h2
      replace h3 := hT _ h3
      replace s1 := hT _ s1
      replace s2 := hT _ s2
      replace s3 := hT _ s3
      replace ha0 := hT _ ha0
      replace hd0 := hT _ hd0
      k_steps
      rename_i _ _ _ hh tk1 rt ru rv hR2 hF2 hN2 hK2
      have hz3 : ∀ p ∈ c.fz, p ∈ T' := hz
      unfold MyLoop
      refine for_rng (σ := Fill) (n := (g.at (ps.getD i 0)).down.toNat) (fun c => [(fl, listOf c.vs.toArray c.n)]) [fl] Fill.fz (fun _ => []) [Str.ofString "across", Str.ofString "spot"]
        (fun j c' => c'.bs = c.bs ++ (List.range j).flatMap (blkR i (ps.getD i 0) (g.at (ps.getD i 0)) x y) ∧ DatAll c'.fz c'.vs (c'.bs.map blkD) ∧ c'.vs.length ≤ 16 * i + 4 * j) T' c rfl hR2 (small_one (by omega) (by omega) (by omega) (by omega)) (rangeSize_toNat (by omega)) hF2 hN2 (fun _ h => h) (fun _ => rfl)
        hD hz3 (fun _ h => nomatch h) ⟨by simp, hPd, by omega⟩ ?turn2 ?done2
      case turn2 =>
        intro j c2 T2 u2 t2' h2' tk2 hj hP2 hz2 hD2 hT2 F4 N4
        simp only [Int.zero_add, List.cons_append, List.nil_append] at F4 N4
        dsimp only [envOf] at F4 N4
        have hne2 : ∀ p ∈ T2, p.1 ≠ fl := fun p hp => by simpa using hD2 p hp
        obtain ⟨hPb2, hPd2, hPl2⟩ := hP2
        replace s1 := hT2 _ s1
        replace s2 := hT2 _ s2
        replace s3 := hT2 _ s3
        replace ha0 := hT2 _ ha0
        replace hd0 := hT2 _ hd0
        k_steps
        rename_i _ _ _ hh3 tk3 rt3 ru3 rv3 hR3 hF3 hN3 hK3
        have hz4 : ∀ p ∈ c2.fz, p ∈ T2 := hz2
        unfold MyLoop
        refine for_rng (σ := Fill) (n := (g.at (ps.getD i 0)).across.toNat) (fun c => [(fl, listOf c.vs.toArray c.n)]) [fl] Fill.fz (fun _ => []) [Str.ofString "spot"]
          (fun k c' => c'.bs = c2.bs ++ (List.range k).map (blkA i (ps.getD i 0) (g.at (ps.getD i 0)) x y j) ∧ DatAll c'.fz c'.vs (c'.bs.map blkD) ∧ c'.vs.length ≤ 16 * i + 4 * j + k) T2 c2 rfl hR3 (small_one (by omega) (by omega) (by omega) (by omega)) (rangeSize_toNat (by omega)) hF3 hN3 (fun _ h => h) (fun _ => rfl)
          hD2 hz4 (fun _ h => nomatch h) ⟨by simp, hPd2, by omega⟩ ?turn3 ?done3
        case turn3 =>
          intro k c3 T3 u3 t3' h3' tk4 hk3 hP3 hz5 hD3 hT3 F5 N5
          simp only [Int.zero_add, List.cons_append, List.nil_append] at F5 N5
          dsimp only [envOf] at F5 N5
          have hne3 : ∀ p ∈ T3, p.1 ≠ fl := fun p hp => by simpa using hD3 p hp
          obtain ⟨hPb3, hPd3, hPl3⟩ := hP3
          replace s1 := hT3 _ s1
          replace s2 := hT3 _ s2
          replace s3 := hT3 _ s3
          replace ha0 := hT3 _ ha0
          replace hd0 := hT3 _ hd0
          k_steps
          rename_i D1 _ l1a _ D2 _ l1b h9 F9 N9
          try simp only [List.push_toArray] at N9
          have N10 := news_rot3 N9
          obtain ⟨o2, o1, e2, e1, N11⟩ : ∃ o2 o1, o2 = _ ∧ o1 = _ ∧ News _ _ h9 ((fl, _) :: (D2, o2) :: (D1, o1) :: T3) := ⟨_, _, rfl, rfl, N10⟩
          refine ⟨⟨c3.vs ++ [Value.ref D2], c3.n + 1, (D2, o2) :: c3.fz, c3.bs ++ [blkA i (ps.getD i 0) (g.at (ps.getD i 0)) x y j k]⟩, [(D2, o2), (D1, o1)], h9, _, _, rfl, F9, N11, ?_, ?_, ?_, (by intro p h; cases h), ?_, ?_, ?_, ?_⟩
          · intro q hq
            rcases List.mem_cons.mp hq with rfl | hq
            · simpa using Nat.ne_of_gt l1b.2.1
            · rcases List.mem_cons.mp hq with rfl | hq
              · simpa using Nat.ne_of_gt l1a.1
              · cases hq
          · intro q hq p hp
            rcases List.mem_cons.mp hq with rfl | hq
            · exact Nat.ne_of_lt (allLt_out l1b.2.2 p hp)
            · rcases List.mem_cons.mp hq with rfl | hq
              · exact Nat.ne_of_lt (allLt_out l1a.2 p hp)
              · cases hq
          · intro p hp
            rcases List.mem_cons.mp hp with rfl | hp
            · exact List.mem_cons_self
            · exact List.mem_cons_of_mem _ (List.mem_cons_of_mem _ hp)
          · intro z e1 _ e3
            simp only [List.contains_cons, List.contains_nil, Bool.or_false, Bool.or_eq_false_iff, beq_eq_false_iff_ne] at e3
            simp [kstB, e1, e3]
          · simp only [hPb3, List.range_succ, List.map_append, List.map_cons, List.map_nil, List.append_assoc]
          · subst e2
            rw [List.map_append]
            exact (hPd3.mono fun p hp => List.mem_cons_of_mem _ hp).append (.one (.tuple (vs := [.int _ _, .int _ _, .int _ _, .int _ _]) List.mem_cons_self (.cons (.int _ _) (.cons (.int _ _) (.cons (.int _ _) (.cons (.int _ _) .nil))))))
          · simp only [List.length_append, List.length_cons, List.length_nil]
            omega
        case done3 =>
          intro c3 new u3 h3' tk4 hP3 hnD hap hfz F5 N5
          simp only [List.cons_append, List.nil_append] at N5
          dsimp only [envOf] at F5 N5
          obtain ⟨hPb3, hPd3, hPl3⟩ := hP3
          k_steps
          refine ⟨c3, new, h3', tk4, _, rfl, F5, N5, hnD, hap, hfz, (by intro p h; cases h), ?_, ?_, hPd3, ?_⟩
          · intro z e1 _ e3
            simp only [List.contains_cons, List.contains_nil, Bool.or_false, Bool.or_eq_false_iff, beq_eq_false_iff_ne] at e3
            simp [kstB, e1, e3]
          · rw [hPb3, hPb2, List.range_succ, List.flatMap_append]
            simp only [List.flatMap_cons, List.flatMap_nil, List.append_nil, List.append_assoc]
            rfl
          · have : (g.at (ps.getD i 0)).across.toNat ≤ 4 := by omega
            omega
      case done2 =>
        intro c2 new u2 h2' tk2 hP2 hnD hap hfz F4 N4
        simp only [List.cons_append, List.nil_append] at N4
        dsimp only [envOf] at F4 N4
        obtain ⟨hPb2, hPd2, hPl2⟩ := hP2
        k_steps
        refine ⟨c2, new, h2', tk2, _, rfl, F4, N4, hnD, hap, hfz, (by intro p h; cases h), ?_, ?_, hPd2, ?_⟩
        · intro z e1 _ e3
          simp only [List.contains_cons, List.contains_nil, Bool.or_false, Bool.or_eq_false_iff, beq_eq_false_iff_ne] at e3
          simp [kstB, e1, e3]
        · rw [hPb2, hPb, List.range_succ, List.flatMap_append]
          simp only [List.flatMap_cons, List.flatMap_nil, List.append_nil]
          rfl
        · have : (g.at (ps.getD i 0)).down.toNat ≤ 4 := by omega
          omega
    case done =>
      intro c new u h tk hP hnD hap hfz F3 N3
      simp only [List.cons_append, List.nil_append] at N3
      dsimp only [envOf] at F3 N3
      obtain ⟨hPb, hPd, hPl⟩ := hP
      k_steps
      rename_i kF kN _ _
      refine hret _ ((fl, listOf c.vs.toArray c.n) :: new) _ _ kF kN ?_ ?_
      · intro q hq p hp
        rcases List.mem_cons.mp hq with rfl | hq
        · exact Nat.ne_of_lt (l1 p hp)
        · exact hap q hq p hp
      · unfold unitBs
        rw [if_neg hal, ← hPb]
        exact .list List.mem_cons_self (hPd.mono fun p hp => by have := hfz p hp; simp at this; simp [this])
end
-- C6
local macro_rules | `(tactic| walk_at "call ref") => `(tactic| (k_here; (with_reducible show wpAny _ _ (call (Value.ref 28) _) _ _ _); k_dflt (refine' units_across_spec (by k_asm) (by k_asm) (by k_asm) (by k_asm) (by k_asm) (by first | exact rfl | assumption) (by ktr_room) (by ktr_units) (by first | assumption | exact FrameIn.mono (by assumption) (by lcg_sub)) (by assumption) (by first | assumption | exact ScanIn.mono (by assumption) (by lcg_sub)) (by assumption) ?_; k_whole); intro t' h' tk' F' N'; (try k_fold)))
local macro_rules | `(tactic| walk_at "call ref") => `(tactic| (k_here; (with_reducible show wpAny _ _ (call (Value.ref 35) _) _ _ _); k_dflt (refine' unit_count_spec (by k_asm) (by k_asm) (by k_asm) (by k_asm) (by k_asm) (by first | exact rfl | assumption) (by ktr_room) (by ktr_units) (by first | assumption | exact FrameIn.mono (by assumption) (by lcg_sub)) (by assumption) (by first | assumption | exact ScanIn.mono (by assumption) (by lcg_sub)) (by assumption) ?_; k_whole); intro t' h' tk' F' N'; (try k_fold)))
local macro_rules | `(tactic| walk_at "call ref") => `(tactic| (k_here; (with_reducible show wpAny _ _ (call (Value.ref 42) _) _ _ _); k_dflt (refine' unit_at_spec (by k_asm) (by k_asm) (by k_asm) (by k_asm) (by k_asm) (by first | exact rfl | assumption) (by ktr_room) (by ktr_units) (by first | assumption | exact FrameIn.mono (by assumption) (by lcg_sub)) (by assumption) (by first | assumption | exact ScanIn.mono (by assumption) (by lcg_sub)) (by assumption) (by assumption) (by assumption) ?_; k_whole); intro r' new' h' tk' F' N' ap' di'; (try k_fold)))

theorem side_bounds {g : Geo} (hg : g.Ok) : 1 ≤ g.side ∧ g.side ≤ 64 := by
  have h := prt_bounds (x := g.width) (y := 8 * g.mA) hg.width.1 (by have := hg.mA.1; omega)
  have := hg.width.2
  unfold Geo.side
  omega
theorem rows_bounds {g : Geo} (hg : g.Ok) : 1 ≤ g.rows ∧ g.rows ≤ 64 := by
  have h := prt_bounds (x := g.height) (y := 8 * g.mD) hg.height.1 (by have := hg.mD.1; omega)
  have := hg.height.2
  unfold Geo.rows
  omega
theorem uA_bounds {g : Geo} (hg : g.Ok) {ps : List Int} (hp : PlacesOk g.comps.length ps) : 1 ≤ uA g ps ∧ uA g ps ≤ 256 := by
  unfold uA
  split
  · rename_i h
    obtain ⟨p, rfl, hp0, hp1, hp2, hpc⟩ := at_one hp h
    exact bW_bounds hg (List.mem_of_getElem? (by rw [hp0]; exact hpc))
  · have := side_bounds hg; omega
theorem uD_bounds {g : Geo} (hg : g.Ok) {ps : List Int} (hp : PlacesOk g.comps.length ps) : 1 ≤ uD g ps ∧ uD g ps ≤ 256 := by
  unfold uD
  split
  · rename_i h
    obtain ⟨p, rfl, hp0, hp1, hp2, hpc⟩ := at_one hp h
    exact bH_bounds hg (List.mem_of_getElem? (by rw [hp0]; exact hpc))
  · have := rows_bounds hg; omega
/-- the unit of a number -/
def unitNo (g : Geo) (ps : List Int) (i : Int) : List Blk := unitBs g ps (Int.fmod i (uA g ps)) (Int.fdiv i (uA g ps))
theorem no_bounds {i a d : Int} (hi : 0 ≤ i) (ha : 1 ≤ a ∧ a ≤ 256) (hd : d ≤ 256) (h : i < a * d) : (0 ≤ Int.fmod i a ∧ Int.fmod i a < 1000) ∧ (0 ≤ Int.fdiv i a ∧ Int.fdiv i a < 1000) := by
  have h1 := Int.fmod_nonneg_of_pos i (b := a) (by omega)
  have h2 := Int.fmod_lt_of_pos i (b := a) (by omega)
  rw [Int.fdiv_eq_ediv_of_nonneg _ (by omega)]
  have h3 : 0 ≤ i / a := Int.ediv_nonneg hi (by omega)
  have h4 : i / a < d := Int.ediv_lt_of_lt_mul (by omega) (by rw [Int.mul_comm]; exact h)
  omega
section
variable {w : World} {mean : ExcName → Option Value} {mg mb : Str → Option Value} {dp un : Nat} {gd : Option (List Code)} {cn : Str} {cs : Scope} {a : Addr} {ccd : Value} {cl : List (Str × Addr)} {outer : List Env} {A₀ : Around} {base h₀ : Heap} {L : Addr} {m : Str → Option Value} {s : Shared} {Q E : Value → Shared → Prop} {news : List (Addr × Obj)}

set_option maxHeartbeats 4000000 in
theorem unit_numbered_spec {fr sc : Addr} {g : Geo} {ps : List Int} {i : Int} {ti : Tok} (B : Below A₀ base outer h₀) (F : Fr h₀ L s.heap m) (X : (hd.heap_1 w.params).In h₀) (N : News h₀ L s.heap news) (T : Top lview (looseW lview []) mean mg mb h₀) (hk : cs.kind = .function)
    (hdp : dp + 10 < recursionLimit) (hun : un + 80 < cLine)
    (hf : FrameIn w news fr g) (hg : g.Ok) (hs : ScanIn w news sc ps) (hp : PlacesOk g.comps.length ps) (hi : 0 ≤ i ∧ i < uA g ps * uD g ps)
    (hret : ∀ r new h' tk', Fr h₀ L h' m → News h₀ L h' (new ++ news) → Apart new news → DatIn new (.ref r) (.list ((unitNo g ps i).map blkD)) → Q (.ref r) { s with heap := h', toks := tk' }) :
    wpAny (model PySem.Challenge.rw_pf0231_01.row.prog w) (ktrTop dp un gd cn cs L a ccd cl outer) (call (.ref 56) [.ref fr, .ref sc, .int i ti]) Q E s := by
  w_on
  have hz : PySem.Challenge.rw_pf0231_01 = PySem.Challenge.rw_pf0231_01 ∧ hd.heap_1 = hd.heap_1 := by
    k_fill
    exact ⟨rfl, rfl⟩
  clear hz
  have hA := uA_bounds hg hp
  have hD := uD_bounds hg hp
  have hnb := no_bounds hi.1 hA hD.2 hi.2
  have hx := hnb.1
  have hy := hnb.2
  refine wpAny_call ?_
  k_dflt ktr_enter
  k_steps
  rename_i ap di kF kN _ _
  exact hret _ _ _ _ kF kN ap di
end
-- C7
section
variable {prog : Program} {w : World} {A : Around} {E : Value → Shared → Prop} {s : Shared} {env : Env} {Q : Flow → Shared → Prop}
/-- a while; the walk stops here -/
def MyWhile (prog : Program) (w : World) (A : Around) (st : Stmt) (env : Env) (Q : Flow → Shared → Prop) (E : Value → Shared → Prop) (s : Shared) : Prop := wpAny (model prog w) A (exec st env) Q E s
theorem while_stop {test : Expr} {body orelse : List Stmt} {pos : Pos} (h : MyWhile prog w A (.While test body orelse pos) env Q E s) : wpAny (model prog w) A (exec (.While test body orelse pos) env) Q E s := h
end
local macro_rules | `(tactic| walk_at "exec While Compare cons nil") => `(tactic| (with_reducible refine while_stop ?_))
theorem prt_step {x y : Int} (hy : 1 ≤ y) : prt (x + y) y = prt x y + 1 := by
  unfold prt
  rw [Int.fdiv_eq_ediv_of_nonneg _ (by omega), Int.fdiv_eq_ediv_of_nonneg _ (by omega)]
  have e : x + y + y - 1 = (x + y - 1) + y * 1 := by omega
  rw [e, Int.add_mul_ediv_left _ _ (by omega)]
theorem prt_zero {x y : Int} (hy : 1 ≤ y) (h0 : 1 - y ≤ x) (h1 : x ≤ 0) : prt x y = 0 := by
  unfold prt
  rw [Int.fdiv_eq_ediv_of_nonneg _ (by omega)]
  exact Int.ediv_eq_zero_of_lt (by omega) (by omega)
structure Cnt where
  a : Int
  f : Int
  ta : Tok
  tf : Tok
section
variable {w : World} {mean : ExcName → Option Value} {mg mb : Str → Option Value} {dp un : Nat} {gd : Option (List Code)} {cn : Str} {cs : Scope} {a : Addr} {ccd : Value} {cl : List (Str × Addr)} {outer : List Env} {A₀ : Around} {base h₀ : Heap} {L : Addr} {m : Str → Option Value} {s : Shared} {Q E : Value → Shared → Prop} {news : List (Addr × Obj)}

set_option maxHeartbeats 4000000 in
theorem pieces_spec {x y : Int} {tx ty : Tok} (B : Below A₀ base outer h₀) (F : Fr h₀ L s.heap m) (X : (hd.heap_1 w.params).In h₀) (N : News h₀ L s.heap news) (T : Top lview (looseW lview []) mean mg mb h₀) (hk : cs.kind = .function)
    (hdp : dp + 2 < recursionLimit) (hun : un + 16 < cLine)
    (hx : 1 ≤ x) (hx2 : x < 100000) (hy : 1 ≤ y) (hy2 : y < 100000)
    (hret : ∀ t h' tk', Fr h₀ L h' m → News h₀ L h' news → Q (.int (prt x y) t) { s with heap := h', toks := tk' }) :
    wpAny (model PySem.Challenge.rw_pf0231_01.row.prog w) (ktrTop dp un gd cn cs L a ccd cl outer) (call (.ref 218) [.int x tx, .int y ty]) Q E s := by
  w_on
  have hz : PySem.Challenge.rw_pf0231_01 = PySem.Challenge.rw_pf0231_01 ∧ hd.heap_1 = hd.heap_1 := by
    k_fill
    exact ⟨rfl, rfl⟩
  clear hz
  refine wpAny_call ?_
  k_dflt ktr_enter
  k_steps
  rename_i F1 N1
  unfold MyWhile
  refine ksw_while (σ := Cnt) (fun _ => news) (fun c => [(Str.ofString "many", .int c.a c.ta), (Str.ofString "found", .int c.f c.tf)]) (fun _ => True) [] (fun c => 1 - y ≤ c.a ∧ c.a ≤ x ∧ 0 ≤ c.f ∧ c.f ≤ 100000 - c.a ∧ c.f + prt c.a y = prt x y) (fun c => (c.a + y).toNat) ⟨x, 0, ?ta, ?tf⟩ (by assumption) (by assumption) trivial ?init ?p0 ?turn
  case init => kst_all
  case p0 => refine ⟨?_, ?_, ?_, ?_, ?_⟩ <;> dsimp only <;> omega
  case turn =>
    intro c u h tk _ hP F2 N2
    obtain ⟨p1, p2, p3, p4, p5⟩ := hP
    dsimp only at F2
    k_steps
    · rename_i hpos _ _ _ _ _ _ F9 N9
      have e := prt_step (x := c.a - y) hy
      rw [Int.sub_add_cancel] at e
      refine' ksw_end ⟨c.a - y, c.f + 1, ?ta2, ?tf2⟩ F9 N9 ?hn trivial ?hk ?hr ?hp ?hm
      case hk =>
        intro p hp
        rcases List.mem_cons.mp hp with rfl | hp
        · with_unfolding_all rfl
        · rcases List.mem_cons.mp hp with rfl | hp
          · with_unfolding_all rfl
          · cases hp
      case hr =>
        intro z e2 _
        simp only [List.forall_mem_cons, List.not_mem_nil, false_implies, implies_true, and_true, ne_eq] at e2
        simp [kstB, e2]
      case hn => exact fun p hp => List.mem_cons_of_mem _ hp
      case hp => refine ⟨?_, ?_, ?_, ?_, ?_⟩ <;> dsimp only <;> omega
      case hm => dsimp only; omega
    · rename_i hn kF kN _ _
      have e := prt_zero hy p1 (by omega)
      have e2 : c.f = prt x y := by omega
      rw [e2]
      exact hret _ _ _ kF kN
end
-- C8
theorem Apart.nil {l : List (Addr × Obj)} : Apart [] l := fun _ h => nomatch h
theorem Apart.cons {a : Addr × Obj} {r l : List (Addr × Obj)} (h : ∀ p ∈ l, p.1 ≠ a.1) (hr : Apart r l) : Apart (a :: r) l := by
  intro q hq
  rcases List.mem_cons.mp hq with rfl | hq
  · exact h
  · exact hr q hq
theorem off1_out {d : Addr} : ∀ {l : List (Addr × Obj)}, LCg.Off1 d l → ∀ p ∈ l, p.1 ≠ d
  | [], _, p, hp => nomatch hp
  | q :: l, h, p, hp => by
    rcases List.mem_cons.mp hp with rfl | hp
    · exact h.1
    · exact off1_out h.2 p hp
local macro_rules | `(tactic| k_ownIn) => `(tactic| first | assumption | exact And.right (by assumption) | exact And.right (And.right (by assumption)) | exact And.right (And.right (And.right (by assumption))) | exact And.right (And.right (And.right (And.right (by assumption)))) | exact And.right (And.right (And.right (And.right (And.right (by assumption))))) | exact And.right (And.right (And.right (And.right (And.right (And.right (by assumption)))))) | exact And.right (And.right (And.right (And.right (And.right (And.right (And.right (by assumption))))))) | exact And.right (And.right (And.right (And.right (And.right (And.right (And.right (And.right (by assumption)))))))) | exact And.right (And.right (And.right (And.right (And.right (And.right (And.right (And.right (And.right (by assumption))))))))) | exact And.right (And.right (And.right (And.right (And.right (And.right (And.right (And.right (And.right (And.right (by assumption)))))))))) | exact And.right (And.right (And.right (And.right (And.right (And.right (And.right (And.right (And.right (And.right (And.right (by assumption))))))))))) | exact And.right (And.right (And.right (And.right (And.right (And.right (And.right (And.right (And.right (And.right (And.right (And.right (by assumption)))))))))))))
local macro_rules | `(tactic| k_allIn) => `(tactic| first | exact Apart.nil | (refine Apart.cons (fun p hp => Nat.ne_of_lt (allLt_out (by k_ownIn) p hp)) ?_; k_allIn) | (refine Apart.cons (off1_out (by k_ownIn)) ?_; k_allIn) | (refine Apart.cons (fun p hp => Nat.ne_of_lt ((by assumption) p hp)) ?_; k_allIn) | (refine Apart.cons (by assumption) ?_; k_allIn))

theorem compEnd_new {h₀ : Heap} {L I C D : Addr} {m : Str → Option Value} {s₁ : Shared} {oI oC oD : Obj} {S : List (Addr × Obj) → Prop} {rest : Value → List (Addr × Obj) → Prop} {y : Value} {h' : Heap} {tk : Nat} {a : Addr × Obj} {nw : List (Addr × Obj)}
    (F : Fr h₀ L h' m) (N : News h₀ L h' (a :: (I, oI) :: (C, oC) :: (D, oD) :: nw)) (off : LCg.Off3 I C D nw) (n1 : @Ne Nat a.1 I) (n2 : @Ne Nat a.1 C) (n3 : @Ne Nat a.1 D) (hS : S (a :: nw)) (r : rest y (a :: nw)) :
    LCg.CompEnd h₀ L m s₁ I oI C oC D oD S rest y { s₁ with heap := h', toks := tk } :=
  LCg.CompEnd.intro F N (a :: nw) (by
    intro p hp
    simp only [List.mem_cons] at hp ⊢
    rcases hp with hp | hp | hp | hp | hp <;> simp [hp]) ⟨⟨n1, n2, n3⟩, off⟩ hS r
theorem list_copy_in {prog : Program} {w : World} {A : Around} {E : Value → Shared → Prop} {s : Shared} {h₀ : Heap} {L : Addr} {m : Str → Option Value} {news : List (Addr × Obj)} {l : Addr} {vs : List Value} {n : Nat} {Q : Value → Shared → Prop} (F : Fr h₀ L s.heap m) (N : News h₀ L s.heap news) (hm : (l, listOf vs.toArray n) ∈ news) (hz : vs.length ≤ 100000)
    (h : ∀ D c h', Fr h₀ L h' m → News h₀ L h' ((D, listOf vs.toArray c) :: news) → (∀ q ∈ news, q.1 < D) → Q (.ref D) { s with heap := h' }) :
    wpAny (model prog w) A (call (.type "list") [.ref l]) Q E s :=
  list_copyK F N ⟨_, (N _ hm).1, rfl, n, rfl⟩ h (by rw [sizeLine_eq]; simp; omega)
local macro_rules | `(tactic| walk_at "call type:list") => `(tactic| (k_here; (with_reducible show wpAny _ _ (call (Value.type _) [Value.ref _]) _ _ _); (with_unfolding_all refine' list_copy_in (by k_asm) (by k_asm) (by k_mem) (by omega) ?_; k_whole); intro D' c' h' F' N' l1'; (try k_lt l1'); (try k_sweep)))
theorem datOfInts {l : List (Addr × Obj)} : ∀ {vs : List Value} {ns : List Int}, IntsAre vs ns → DatAll l vs (ns.map Dat.int) := by
  intro vs ns h
  induction h with
  | nil => exact .nil
  | cons _ _ _ ih => exact .cons (.int _ _) ih
theorem take_map_any {α : Type} {cs : List Cmp} {j : Nat} {c : Cmp} {f : Cmp → α} (h : cs[j]? = some c) : (cs.map f).take (j + 1) = (cs.map f).take j ++ [f c] := by
  rw [List.take_add_one, List.getElem?_map, h]
  rfl
def cmpD (c : Cmp) : Dat := .tuple [.int c.ident, .int c.across, .int c.down, .int c.quant]
/-- what _law_row hands back -/
def rowD (g : Geo) (ps : List Int) : Dat := .tuple [.int g.height, .int g.width, .int 8, .list (g.comps.map cmpD), .list (ps.map Dat.int), .list ((List.replicate ps.length 0).map Dat.int), .list ((List.replicate ps.length 1).map Dat.int)]
section
local macro_rules | `(tactic| walk_at "CompSrc") => `(tactic| (k_here; refine stop_here ?_))
local macro_rules | `(tactic| lcg_off) => `(tactic| assumption)
local macro_rules | `(tactic| walk_at "CompEnd") => `(tactic| ((with_unfolding_all refine' compEnd_new ?cF ?cN ?cO ?c1 ?c2 ?c3 ?cR ?_); (case cF => assumption); (case cN => assumption); (case cO => lcg_off); (case c1 => k_ne); (case c2 => k_ne); (case c3 => k_ne); (case cR => exact Or.inr ⟨_, by k_mem, rfl, _, rfl⟩)))
section
variable {w : World} {mean : ExcName → Option Value} {mg mb : Str → Option Value} {dp un : Nat} {gd : Option (List Code)} {cn : Str} {cs : Scope} {a : Addr} {ccd : Value} {cl : List (Str × Addr)} {outer : List Env} {A₀ : Around} {base h₀ : Heap} {L : Addr} {m : Str → Option Value} {s : Shared} {Q E : Value → Shared → Prop} {news : List (Addr × Obj)}

set_option maxHeartbeats 4000000 in
theorem row_spec {fr sc : Addr} {g : Geo} {ps : List Int} (B : Below A₀ base outer h₀) (F : Fr h₀ L s.heap m) (X : (hd.heap_1 w.params).In h₀) (N : News h₀ L s.heap news) (T : Top lview (looseW lview []) mean mg mb h₀) (hk : cs.kind = .function)
    (hdp : dp + 4 < recursionLimit) (hun : un + 32 < cLine)
    (hf : FrameIn w news fr g) (hg : g.Ok) (hs : ScanIn w news sc ps) (hp3 : ps.length ≤ 3)
    (hret : ∀ r new h' tk', Fr h₀ L h' m → News h₀ L h' (new ++ news) → Apart new news → DatIn new (.ref r) (rowD g ps) → Q (.ref r) { s with heap := h', toks := tk' }) :
    wpAny (model PySem.Challenge.rw_pf0231_01.row.prog w) (ktrTop dp un gd cn cs L a ccd cl outer) (call (.ref 233) [.ref fr, .ref sc]) Q E s := by
  w_on
  have hz : PySem.Challenge.rw_pf0231_01 = PySem.Challenge.rw_pf0231_01 ∧ hd.heap_1 = hd.heap_1 := by
    k_fill
    exact ⟨rfl, rfl⟩
  clear hz
  obtain ⟨sd, sl, ld, la, q1, q2, q3, q4, q5, q6, q7, u4, u5, u6, u7, sn, sn', nd, na, sv, ds, as, s1, s2, s3, s4, s5, s6, s7, s8⟩ := id hs
  obtain ⟨d, l, k1, k2, k3, k4, k5, k6, t1, t2, t3, t4, t6, n, n', vs, h1, h2, h3, h4⟩ := id hf
  have l1 : sv.length ≤ 3 := by rw [s4.length]; omega
  have l2 : ds.length ≤ 3 := by rw [s6.length]; simpa using hp3
  have l3 : as.length ≤ 3 := by rw [s8.length]; simpa using hp3
  have hlen := h4.len
  have hl := hg.len
  refine wpAny_call ?_
  k_dflt ktr_enter
  rename_i g1 L1 _ _ F0 _ _ _ _
  replace F0 : Fr g1 L1 _ (mapOf [(Str.ofString "scan", .ref sc), (Str.ofString "frame", .ref fr)]) := F0
  generalize s.toks + _ = tk0
  refine stmt_step (R := fun s' => ∃ h tk rl rn rvs new, s' = { s with heap := h, toks := tk } ∧ Fr g1 L1 h (mapOf [(Str.ofString "rows", .ref rl), (Str.ofString "scan", .ref sc), (Str.ofString "frame", .ref fr)]) ∧ News g1 L1 h ((rl, listOf rvs.toArray rn) :: (new ++ news)) ∧ Apart ((rl, listOf rvs.toArray rn) :: new) news ∧ DatAll new rvs (g.comps.map cmpD)) ?b1 ?k1
  case b1 =>
    k_steps
    refine stop_go ?_
    refine LCg.CompSrc.ledger (its := vs.toArray) (k := n') rfl (by assumption) (by assumption) (by k_mem) (by rw [List.size_toArray, sizeLine_eq]; omega) (fun g' => ?_)
    refine compRest_inv vs.toArray.size (fun j ys2 nx => Stop (∃ new, nx = new ++ news ∧ Apart new news ∧ DatAll new ys2 ((g.comps.map cmpD).take j))) ?step ?fin _ 0 [] _ rfl ⟨[], rfl, Apart.nil, .nil⟩
    case step =>
      intro j ys2 nx v2 I oI C2 oC2 D2 m3 hh3 tk3 E3 hj hinv hv2 hC2 hx2 F4 N4 off4 ne4
      obtain ⟨new, hnx, hap, hd⟩ := hinv
      obtain ⟨c9, hc9, a9, d9, _, _, _, _, _, _, _, _, _, rfl, ha9, hd9⟩ := h4.at (by simpa using hv2)
      have hq : ∀ p ∈ news, p ∈ nx := fun p hp => by rw [hnx]; exact List.mem_append.mpr (.inr hp)
      replace ha9 := hq _ ha9
      replace hd9 := hq _ hd9
      have h3' := hq _ h3
      k_steps
      rename_i tv _ FF NN lt
      refine stop_go ⟨(tv, _) :: new, by rw [hnx]; rfl, Apart.cons (fun q hq' => Nat.ne_of_lt (allLt_out lt.2.2.2 q (hq q hq'))) hap, ?_⟩
      rw [take_map_any hc9]
      exact (hd.mono fun p hp => List.mem_cons_of_mem _ hp).append (.one (.tuple (vs := [_, _, _, _]) List.mem_cons_self (.cons (.int _ _) (.cons (.int _ _) (.cons (.int _ _) (.cons (.int _ _) .nil))))))
    case fin =>
      rintro ys2 nx ⟨new, hnx, hap, hd⟩ D2 h5 tk5 F5 N5 o5
      rw [List.take_of_length_le (by rw [List.length_map, List.size_toArray, hlen]; exact Nat.le_refl _)] at hd
      k_steps
      rename Fr _ _ _ _ => F7
      rename News _ _ _ _ => N7
      exact ⟨by trivial, _, _, D2, _, ys2, new, rfl, fr_put F7, fun q hq => N7 q (by rw [hnx]; exact hq), Apart.cons (fun q hq => off1_out o5 q (by rw [hnx]; exact List.mem_append.mpr (.inr hq))) hap, hd⟩
  case k1 =>
    rintro s1 ⟨h1', tk1, rl, rn, rvs, new, rfl, F1, N1, hap, hd⟩
    k_steps
    rename_i D3 c3 _ a3 D2 c2 _ a2 D1 c1 _ a1 D0 _ _ _ a0 kF kN _ _
    have hr : ∀ q ∈ news, q ∈ new ++ news := fun q hq => List.mem_append.mpr (.inr hq)
    refine hret D0 (_ :: _ :: _ :: _ :: _ :: new) _ _ kF kN ?_ ?_
    · exact Apart.cons (fun q hq => Nat.ne_of_lt (allLt_out a0.2.2.2.2 q (hr q hq))) (Apart.cons (fun q hq => Nat.ne_of_lt (allLt_out a1.2.2.2 q (hr q hq))) (Apart.cons (fun q hq => Nat.ne_of_lt (allLt_out a2.2.2 q (hr q hq))) (Apart.cons (fun q hq => Nat.ne_of_lt (allLt_out a3.2 q (hr q hq))) hap)))
    · exact .tuple (vs := [_, _, _, _, _, _, _]) List.mem_cons_self (.cons (.int _ _) (.cons (.int _ _) (.cons (.int _ _) (.cons (.list (by k_mem) (hd.mono fun p hp => List.mem_cons_of_mem _ (List.mem_cons_of_mem _ (List.mem_cons_of_mem _ (List.mem_cons_of_mem _ (List.mem_cons_of_mem _ hp)))))) (.cons (.list (by k_mem) (datOfInts s4)) (.cons (.list (by k_mem) (datOfInts s6)) (.cons (.list (by k_mem) (datOfInts s8)) .nil)))))))
end
end
-- C9
theorem fm_lo (a : Int) : 0 ≤ Int.fmod a 2147483587 + 61 := by
  have := Int.fmod_nonneg_of_pos a (b := 2147483587) (by decide)
  omega
theorem fm_hi (a : Int) : Int.fmod a 2147483587 + 61 < 4294967296 := by
  have := Int.fmod_lt_of_pos a (b := 2147483587) (by decide)
  omega
section
variable {w : World} {mean : ExcName → Option Value} {mg mb : Str → Option Value} {dp un : Nat} {gd : Option (List Code)} {cn : Str} {cs : Scope} {a : Addr} {ccd : Value} {cl : List (Str × Addr)} {outer : List Env} {A₀ : Around} {base h₀ : Heap} {L : Addr} {m : Str → Option Value} {s : Shared} {Q E : Value → Shared → Prop} {news : List (Addr × Obj)}

set_option maxHeartbeats 4000000 in
theorem spring_spec {l : Addr} {vs : List Value} {ns : List Int} (B : Below A₀ base outer h₀) (F : Fr h₀ L s.heap m) (X : (hd.heap_1 w.params).In h₀) (N : News h₀ L s.heap news) (T : Top lview (looseW lview []) mean mg mb h₀) (hk : cs.kind = .function)
    (hdp : dp + 20 < recursionLimit) (hun : un + 160 < cLine)
    (hl : base.IsList l vs.toArray) (hi : IntsAre vs ns) (hz : ns.length ≤ 63)
    (hret : ∀ sp x y tx ty n h' tk', 0 ≤ x → 0 ≤ y → y < 4294967296 → Fr h₀ L h' m → News h₀ L h' ((sp, listOf #[.int x tx, .int y ty] n) :: news) → (∀ p ∈ news, p.1 ≠ sp) → Q (.ref sp) { s with heap := h', toks := tk' }) :
    wpAny (model PySem.Challenge.rw_pf0231_01.row.prog w) (ktrTop dp un gd cn cs L a ccd cl outer) (call (.ref 192) [.ref l]) Q E s := by
  w_on
  have hz : PySem.Challenge.rw_pf0231_01 = PySem.Challenge.rw_pf0231_01 ∧ hd.heap_1 = hd.heap_1 := by
    k_fill
    exact ⟨rfl, rfl⟩
  clear hz
  have hl' : h₀.IsList l vs.toArray := stays_list B.stays hl
  have hlen := hi.length
  refine wpAny_call ?_
  k_dflt ktr_enter
  rename_i g L' h1 FG F1 N1 B1 X1 T1
  have hlg : g.IsList l vs.toArray := hl'.at fun o e => FG.keep _ o e
  clear hl'
  rcases hi with _ | @⟨k, tk0, vs, ns, hi⟩
  · k_steps
    all_goals (rename_i kF kN _ _; refine hret _ _ _ _ _ _ _ _ ?_ ?_ ?_ kF (news_drop kN (by lcg_sub)) (fun p hp => Nat.ne_of_lt (allLt_out (by k_ownIn) p hp)))
    all_goals first | omega | exact fm_lo _ | exact fm_hi _
  · have hx0 : (Value.int k tk0 :: vs)[(0 : Int).toNat]? = some (.int k tk0) := rfl
    k_steps
    all_goals (rename_i kF kN _ _; refine hret _ _ _ _ _ _ _ _ ?_ ?_ ?_ kF (news_drop kN (by lcg_sub)) (fun p hp => Nat.ne_of_lt (allLt_out (by k_ownIn) p hp)))
    all_goals first | omega | exact fm_lo _ | exact fm_hi _
end
-- C10
local macro_rules | `(tactic| k_all) => `(tactic| first | assumption | exact fun p hp => Nat.ne_of_lt (allLt_out (by k_ownIn) p hp) | exact List.forall_mem_nil _ | (refine' List.forall_mem_cons.mpr ⟨(by k_ne), (by k_all)⟩))
theorem compEnd_same {h₀ : Heap} {L I C D : Addr} {m : Str → Option Value} {s₁ : Shared} {oI oC oD : Obj} {S : List (Addr × Obj) → Prop} {rest : Value → List (Addr × Obj) → Prop} {y : Value} {h' : Heap} {tk : Nat} {nw : List (Addr × Obj)}
    (F : Fr h₀ L h' m) (N : News h₀ L h' ((I, oI) :: (C, oC) :: (D, oD) :: nw)) (off : LCg.Off3 I C D nw) (hS : S nw) (r : rest y nw) :
    LCg.CompEnd h₀ L m s₁ I oI C oC D oD S rest y { s₁ with heap := h', toks := tk } := LCg.CompEnd.intro F N nw (fun _ h => h) off hS r
local macro_rules | `(tactic| walk_at "CompEnd") => `(tactic| ((with_unfolding_all refine' compEnd_same ?cF ?cN ?cO ?cR ?_); (case cF => assumption); (case cN => assumption); (case cO => assumption); (case cR => exact Or.inr ⟨_, by k_mem, rfl, _, rfl⟩)))
theorem news_perm {h₀ h : Heap} {L : Addr} {l l' : List (Addr × Obj)} (N : News h₀ L h l) (hs : ∀ p ∈ l', p ∈ l) : News h₀ L h l' := fun p hp => N p (hs p hp)
section
variable {w : World} {mean : ExcName → Option Value} {mg mb : Str → Option Value} {dp un : Nat} {gd : Option (List Code)} {cn : Str} {cs : Scope} {a : Addr} {ccd : Value} {cl : List (Str × Addr)} {outer : List Env} {A₀ : Around} {base h₀ : Heap} {L : Addr} {m : Str → Option Value} {s : Shared} {Q E : Value → Shared → Prop} {news : List (Addr × Obj)}

theorem drawn_in {sp : Addr} {x y many : Int} {tx ty tm : Tok} {n : Nat} {g : Obj → List (Addr × Obj)}
    (B : Below A₀ base outer h₀) (F : Fr h₀ L s.heap m) (X : (hd.heap_1 w.params).In h₀) (N : News h₀ L s.heap news) (T : Top lview (looseW lview []) mean mg mb h₀) (hk : cs.kind = .function)
    (hdp : dp + 2 < recursionLimit) (hun : un + 16 < cLine)
    (U : UpdF sp (listOf #[.int x tx, .int y ty] n) news g)
    (hx : 0 ≤ x) (hy : 0 ≤ y) (hy2 : y < 4294967296) (hm : 1 ≤ many) (hm2 : many < 100000)
    (hret : ∀ v t x' y' tx' ty' h' tk', 0 ≤ v → v < many → 0 ≤ x' → 0 ≤ y' → y' < 4294967296 → Fr h₀ L h' m → News h₀ L h' (g (listOf #[.int x' tx', .int y' ty'] n)) → Q (.int v t) { s with heap := h', toks := tk' }) :
    wpAny (model PySem.Challenge.rw_pf0231_01.row.prog w) (ktrTop dp un gd cn cs L a ccd cl outer) (call (.ref 199) [.ref sp, .int many tm]) Q E s := by
  obtain ⟨pre, post, rfl, hg, a1, b1⟩ := U.split
  refine drawn_spec (rest := pre ++ post) (n := n) (tx := tx) (ty := ty) B F X (news_perm N (fun p hp => ?_)) T hk hdp hun (fun p hp => ?_) hx hy hy2 hm hm2 (fun v t x' y' tx' ty' h' tk' z1 z2 z3 z4 z5 F' N' => hret v t x' y' tx' ty' h' tk' z1 z2 z3 z4 z5 F' (hg _ ▸ news_perm N' (fun p hp => ?_)))
  · simp only [List.mem_append, List.mem_cons] at hp ⊢
    rcases hp with hp | hp | hp <;> simp [hp]
  · rcases List.mem_append.mp hp with hp | hp
    · exact a1 p hp
    · exact b1 p hp
  · simp only [List.mem_append, List.mem_cons] at hp ⊢
    rcases hp with hp | hp | hp <;> simp [hp]
end
local macro_rules | `(tactic| walk_at "call ref") => `(tactic| (k_here; (with_reducible show wpAny _ _ (call (Value.ref 199) _) _ _ _); (try simp only [List.cons_append, List.nil_append]); k_dflt (refine' drawn_in (by k_asm) (by k_asm) (by k_asm) (by k_asm) (by k_asm) (by first | exact rfl | assumption) (by ktr_room) (by ktr_units) (by k_updF) (by assumption) (by assumption) (by assumption) (by omega) (by omega) ?_; k_whole); intro v' t' x' y' tx' ty' h' tk' hv1 hv2 hx1 hy1 hy2 F' N'; (try dsimp only at N'); (try k_fold)))
local macro_rules | `(tactic| walk_at "call ref") => `(tactic| (k_here; (first | with_reducible show wpAny _ _ (call (Value.ref 80) _ _) _ _ _ | with_reducible show wpAny _ _ (call (Value.ref 146) _ _) _ _ _ | with_reducible show wpAny _ _ (call (Value.ref 181) _ _) _ _ _); k_dflt (refine' call_cls ?k1 ?k2 ?k3 ?k4 ?k5 ?k6 ?_; (case k1 => k_asm); (case k2 => k_asm); (case k3 => k_asm); (case k4 => k_is); (case k5 => k_is); (case k6 => k_is); k_whole; intro x' d' h' F' N' l1 l2; (try k_lt l1); (try k_lt2 l2); (try k_sweep); refine' code_def ?k1 ?k2 ?k3 ?k4 ?k5 ?kA ?kF ?kK ?k6 ?k7 ?k8 ?k9 ?kB ?_ ?c2 ?c3 ?c4 ?c5; (case kA => exact rfl); (case kF => exact rfl); (case kK => first | exact rfl | assumption); (case k1 => k_asm); (case k2 => k_asm); (case k3 => k_asm); (case k4 => k_asm); (case k5 => k_asm); (case k6 => k_is); (case k7 => k_is); (case k8 => ktr_room); (case k9 => exact BindsTo.of_eq rfl); (case c5 => decide); (case kB => exact locs rfl); (case c2 => exact rfl); (case c3 => exact rfl); (case c4 => exact rfl); k_whole; intro g' L' h' FG' F' N' B' X' T'; (try dsimp only); (try k_fold))))
theorem CompsIn.length {w : World} {l : List (Addr × Obj)} : ∀ {vs : List Value} {cs : List Cmp}, CompsIn w l vs cs → vs.length = cs.length
  | [], [], _ => rfl
  | _ :: _, _ :: _, h => congrArg (· + 1) (CompsIn.length h.2)
  | [], _ :: _, h => h.elim
  | _ :: _, [], h => h.elim
theorem CompsIn.append {w : World} {l : List (Addr × Obj)} {v : Value} {c : Cmp} : ∀ {vs : List Value} {cs : List Cmp}, CompsIn w l vs cs → CompIn w l v c → CompsIn w l (vs ++ [v]) (cs ++ [c])
  | [], [], _, hc => ⟨hc, trivial⟩
  | _ :: _, _ :: _, h, hc => ⟨h.1, CompsIn.append h.2 hc⟩
  | [], _ :: _, h, _ => h.elim
  | _ :: _, [], h, _ => h.elim
theorem news_rot42 {h₀ h : Heap} {L : Addr} {a b c d e f : Addr × Obj} {T : List (Addr × Obj)} (N : News h₀ L h (a :: b :: c :: d :: e :: f :: T)) : News h₀ L h (e :: f :: a :: b :: c :: d :: T) := fun p hp => N p (by
  simp only [List.mem_cons] at hp ⊢
  rcases hp with hp | hp | hp | hp | hp | hp | hp <;> simp [hp])
theorem mxA_bounds {cs : List Cmp} (h0 : 0 < cs.length) (h : ∀ c ∈ cs, 1 ≤ c.across ∧ c.across ≤ 4) : 1 ≤ cs.foldl (fun x c => max x c.across) 0 ∧ cs.foldl (fun x c => max x c.across) 0 ≤ 4 := by
  obtain ⟨c, hc⟩ := List.exists_mem_of_length_pos h0
  have h1 := (foldl_max_ge (fun c : Cmp => c.across) cs 0).2 c hc
  have h2 := foldl_max_le (fun c : Cmp => c.across) 4 cs 0 (by omega) fun d hd => (h d hd).2
  have h3 := h c hc
  omega
theorem mxD_bounds {cs : List Cmp} (h0 : 0 < cs.length) (h : ∀ c ∈ cs, 1 ≤ c.down ∧ c.down ≤ 4) : 1 ≤ cs.foldl (fun x c => max x c.down) 0 ∧ cs.foldl (fun x c => max x c.down) 0 ≤ 4 := by
  obtain ⟨c, hc⟩ := List.exists_mem_of_length_pos h0
  have h1 := (foldl_max_ge (fun c : Cmp => c.down) cs 0).2 c hc
  have h2 := foldl_max_le (fun c : Cmp => c.down) 4 cs 0 (by omega) fun d hd => (h d hd).2
  have h3 := h c hc
  omega
/-- the locals of _law_frame behind its loop -/
def mapFrame (u : Str → Option Value) (sp fl : Addr) : Str → Option Value := fun z => if z = Str.ofString "place" then u z else mapOf [(Str.ofString "members", .ref fl), (Str.ofString "spring", .ref sp)] z
/-- the locals behind the sides -/
def mapFr (u : Str → Option Value) (sp fl : Addr) (l : List (Str × Value)) : Str → Option Value := fun z => match l.lookup z with
  | some v => some v
  | none => mapFrame u sp fl z
theorem mapFr_cons {u : Str → Option Value} {sp fl : Addr} {k : Str} {v : Value} {l : List (Str × Value)} : (fun y => if y = k then some v else mapFr u sp fl l y) = mapFr u sp fl ((k, v) :: l) := by
  funext y
  unfold mapFr
  rw [List.lookup_cons]
  by_cases h : y = k
  · simp [h]
  · rw [if_neg h, beq_eq_false_iff_ne.mpr h]
theorem frame_map {u : Str → Option Value} {sp fl : Addr} {h₀ h : Heap} {L : Addr} (F : Fr h₀ L h (fun y => if y = Str.ofString "place" then u y else kstB (fun z => if ([] : List Str).contains z then u z else if z = Str.ofString "members" then some (.ref fl) else mapOf [(Str.ofString "spring", .ref sp)] z) [] y)) : Fr h₀ L h (mapFr u sp fl []) := by
  have e : (fun y => if y = Str.ofString "place" then u y else kstB (fun z => if ([] : List Str).contains z then u z else if z = Str.ofString "members" then some (.ref fl) else mapOf [(Str.ofString "spring", .ref sp)] z) [] y) = mapFrame u sp fl := by
    funext y
    have e1 := congrFun (mapOf_cons (k := Str.ofString "members") (v := .ref fl) (l := [(Str.ofString "spring", .ref sp)])) y
    unfold mapFrame
    rw [← e1]
    rfl
  show Fr h₀ L h (mapFrame u sp fl)
  exact e ▸ F
theorem mapFr_put {u : Str → Option Value} {sp fl : Addr} {h₀ h : Heap} {L : Addr} {k : Str} {v : Value} {l : List (Str × Value)} (F : Fr h₀ L h (fun y => if y = k then some v else mapFr u sp fl l y)) : Fr h₀ L h (mapFr u sp fl ((k, v) :: l)) := mapFr_cons ▸ F
theorem mapFr_put2 {u : Str → Option Value} {sp fl : Addr} {h₀ h : Heap} {L : Addr} {k k2 : Str} {v v2 : Value} {l : List (Str × Value)} (F : Fr h₀ L h (fun y => if y = k2 then some v2 else if y = k then some v else mapFr u sp fl l y)) : Fr h₀ L h (mapFr u sp fl ((k2, v2) :: (k, v) :: l)) := by
  have e : (fun y => if y = k2 then some v2 else if y = k then some v else mapFr u sp fl l y) = mapFr u sp fl ((k2, v2) :: (k, v) :: l) := by
    rw [← mapFr_cons, ← mapFr_cons]
  exact e ▸ F
theorem frame_rot {h₀ h : Heap} {L : Addr} {a b c d : Addr × Obj} {T : List (Addr × Obj)} (N : News h₀ L h (a :: b :: c :: d :: T)) : News h₀ L h (d :: a :: b :: c :: T) := fun p hp => N p (by
  simp only [List.mem_cons] at hp ⊢
  rcases hp with hp | hp | hp | hp | hp <;> simp [hp])
theorem side_ok {M v1 v2 : Int} (hm : 1 ≤ M ∧ M ≤ 4) (h1 : 0 ≤ v1) (h2 : v1 < 2) (h3 : 0 ≤ v2) (h4 : v2 < 8 * M) : 1 ≤ 8 * M * (1 + v1) - v2 ∧ 8 * M * (1 + v1) - v2 ≤ 64 := by
  rcases (by omega : v1 = 0 ∨ v1 = 1) with rfl | rfl <;> omega
/-- what the frame's loop changes -/
structure FS where
  vs : List Value
  n : Nat
  fz : List (Addr × Obj)
  cs : List Cmp
  x : Int
  y : Int
  tx : Tok
  ty : Tok
section
local macro_rules | `(tactic| walk_at "CompSrc") => `(tactic| (k_here; refine stop_here ?_))
section
variable {w : World} {mean : ExcName → Option Value} {mg mb : Str → Option Value} {dp un : Nat} {gd : Option (List Code)} {cn : Str} {cs : Scope} {a : Addr} {ccd : Value} {cl : List (Str × Addr)} {outer : List Env} {A₀ : Around} {base h₀ : Heap} {L : Addr} {m : Str → Option Value} {s : Shared} {Q E : Value → Shared → Prop} {news : List (Addr × Obj)}

set_option maxHeartbeats 4000000 in
theorem frame_spec {sp : Addr} {x y : Int} {tx ty : Tok} {n : Nat} {rest : List (Addr × Obj)} (B : Below A₀ base outer h₀) (F : Fr h₀ L s.heap m) (X : (hd.heap_1 w.params).In h₀) (N : News h₀ L s.heap ((sp, listOf #[.int x tx, .int y ty] n) :: rest)) (T : Top lview (looseW lview []) mean mg mb h₀) (hk : cs.kind = .function)
    (hdp : dp + 8 < recursionLimit) (hun : un + 64 < cLine)
    (hne : ∀ p ∈ rest, p.1 ≠ sp) (hx : 0 ≤ x) (hy : 0 ≤ y) (hy2 : y < 4294967296)
    (hret : ∀ r g new x' y' tx' ty' h' tk', 0 ≤ x' → 0 ≤ y' → y' < 4294967296 → Fr h₀ L h' m → News h₀ L h' ((sp, listOf #[.int x' tx', .int y' ty'] n) :: (new ++ rest)) → Apart new ((sp, listOf #[.int x' tx', .int y' ty'] n) :: rest) → FrameIn w new r g → g.Ok → Q (.ref r) { s with heap := h', toks := tk' }) :
    wpAny (model PySem.Challenge.rw_pf0231_01.row.prog w) (ktrTop dp un gd cn cs L a ccd cl outer) (call (.ref 204) [.ref sp]) Q E s := by
  w_on
  have hz : PySem.Challenge.rw_pf0231_01 = PySem.Challenge.rw_pf0231_01 ∧ hd.heap_1 = hd.heap_1 := by
    k_fill
    exact ⟨rfl, rfl⟩
  clear hz
  refine wpAny_call ?_
  k_dflt ktr_enter
  rename_i g1 L1 _ _ F0 _ _ _ _
  replace F0 : Fr g1 L1 _ (mapOf [(Str.ofString "spring", .ref sp)]) := F0
  generalize s.toks + _ = tk0
  k_steps
  rename_i fl _ l1 _ lF _ v0 t0 xs ys txs tys hb tkb hv1 hv2 hx1 hy1 hy3 Fb Nb hh tk1 rt ru rv hR hF hN hK
  unfold MyLoop
  refine for_rng (σ := FS) (n := (2 + v0).toNat) (fun c => [(fl, listOf c.vs.toArray c.n), (sp, listOf #[.int c.x c.tx, .int c.y c.ty] n)]) [fl, sp] FS.fz (fun _ => []) []
    (fun i c => CompsIn w c.fz c.vs c.cs ∧ c.cs.length = i ∧ (∀ k ∈ c.cs, (1 ≤ k.across ∧ k.across ≤ 4) ∧ (1 ≤ k.down ∧ k.down ≤ 4)) ∧ 0 ≤ c.x ∧ 0 ≤ c.y ∧ c.y < 4294967296) rest ⟨[], 0, [], [], xs, ys, txs, tys⟩ rfl hR (small_one (by omega) (by omega) (by omega) (by omega)) (rangeSize_toNat (by omega)) hF hN (fun _ h => h) (fun _ => rfl)
    (fun p hp => by simpa using ⟨Nat.ne_of_lt (allLt_out l1.2 p hp), hne p hp⟩) (fun _ h => nomatch h) (fun _ h => nomatch h) ⟨trivial, rfl, (fun _ h => nomatch h), hx1, hy1, hy3⟩ ?turn ?done
  case turn =>
    intro i c T' u t h tk hi hP hz hD hT F3 N3
    simp only [Int.zero_add, List.cons_append, List.nil_append] at F3 N3
    dsimp only [envOf] at F3 N3
    obtain ⟨hPc, hPn, hPb, hPx, hPy, hPy2⟩ := hP
    have hne1 : ∀ p ∈ T', p.1 ≠ fl := fun p hp => by have := hD p hp; simp at this; exact this.1
    have hne2 : ∀ p ∈ T', p.1 ≠ sp := fun p hp => by have := hD p hp; simp at this; exact this.2
    have hvl : c.vs.length = i := by rw [hPc.length, hPn]
    k_steps
    rename_i e1 _ z1 v1 _ _ _ _ _ _ _ hva1 hvb1 _ _ _ _ _ _ e2 _ z2 v2 _ x2 y2 tx2 ty2 _ _ hva2 hvb2 hx2 hy2a hy2b _ _ _ xi di _ z3 z4 _ _ _ _ _ _ _ _ _ _ _ _ _ _ _ h9 F9 N9
    try simp only [List.push_toArray] at N9
    have N10 := news_rot42 N9
    have q1 := kmn_in (l := [0, 1, 0, 2, 3]) (i := v1.toNat) (d := 0) (lo := 0) (hi := 3) (by simp; omega) (by decide)
    have q2 := kmn_in (l := [0, 0, 1, 2, 3]) (i := v2.toNat) (d := 0) (lo := 0) (hi := 3) (by simp; omega) (by decide)
    obtain ⟨o4, o3, o2, o1, f4, f3, f2, f1, N11⟩ : ∃ o4 o3 o2 o1, o4 = _ ∧ o3 = _ ∧ o2 = _ ∧ o1 = _ ∧ News _ _ h9 ((fl, _) :: (sp, _) :: (xi, o4) :: (di, o3) :: (e2, o2) :: (e1, o1) :: T') := ⟨_, _, _, _, rfl, rfl, rfl, rfl, N10⟩
    refine ⟨⟨c.vs ++ [Value.ref xi], c.n + 1, (xi, o4) :: (di, o3) :: c.fz, c.cs ++ [⟨30 - (i : Int), 1 + [0, 1, 0, 2, 3].getD v1.toNat 0, 1 + [0, 0, 1, 2, 3].getD v2.toNat 0, (i : Int)⟩], x2, y2, tx2, ty2⟩, [(xi, o4), (di, o3), (e2, o2), (e1, o1)], h9, _, _, rfl, F9, N11, ?_, ?_, ?_, (by intro p h; cases h), ?_, ?_, ?_, ?_, hx2, hy2a, hy2b⟩
    · intro q hq
      have hq' : q.1 = xi ∨ q.1 = di ∨ q.1 = e2 ∨ q.1 = e1 := by
        simp only [List.mem_cons, List.not_mem_nil, or_false] at hq
        rcases hq with rfl | rfl | rfl | rfl <;> simp
      have zz := z1.1
      have zy := z1.2.1
      have zx := z2.2.1
      have zw := z2.2.2.1
      have zv := z3.2.2.1
      have zu := z3.2.2.2.1
      have key : q.1 ≠ fl ∧ q.1 ≠ sp := by
        rcases hq' with h | h | h | h <;> rw [h] <;> constructor <;> (refine neN ?_; omega)
      simpa using key
    · refine Apart.cons (fun p hp => Nat.ne_of_lt (Nat.lt_trans (allLt_out z3.2.2.2.2 p hp) z4)) (Apart.cons (fun p hp => Nat.ne_of_lt (allLt_out z3.2.2.2.2 p hp)) (Apart.cons (fun p hp => Nat.ne_of_lt (allLt_out z2.2.2.2 p hp)) (Apart.cons (fun p hp => Nat.ne_of_lt (allLt_out z1.2.2 p hp)) Apart.nil)))
    · intro p hp
      simp only [List.mem_cons] at hp ⊢
      rcases hp with hp | hp | hp <;> simp [hp]
    · intro z e1 _ e3
      simp [kstB, e1]
    · have hci : CompIn w [(xi, o4), (di, o3)] (.ref xi) ⟨30 - (i : Int), 1 + [0, 1, 0, 2, 3].getD v1.toNat 0, 1 + [0, 0, 1, 2, 3].getD v2.toNat 0, (i : Int)⟩ := by
        rw [f4, f3]
        exact ⟨xi, di, _, _, _, _, _, _, _, _, _, rfl, List.mem_cons_self, List.mem_cons_of_mem _ List.mem_cons_self⟩
      exact (hPc.mono fun p hp => List.mem_cons_of_mem _ (List.mem_cons_of_mem _ hp)).append (hci.mono fun p hp => by simp only [List.mem_cons, List.not_mem_nil, or_false] at hp; rcases hp with hp | hp <;> simp [hp])
    · simp [hPn]
    · intro k hk'
      rcases List.mem_append.mp hk' with hk' | hk'
      · exact hPb k hk'
      · rw [List.mem_singleton.mp hk']
        refine ⟨⟨?_, ?_⟩, ?_, ?_⟩ <;> dsimp only <;> omega
  case done =>
    intro c new u h tk hP hnD hap hfz F3 N3
    simp only [List.cons_append, List.nil_append] at N3
    dsimp only [envOf] at F3 N3
    obtain ⟨hPc, hPn, hPb, hPx, hPy, hPy2⟩ := hP
    have hPc' : CompsIn w new c.vs c.cs := hPc.mono fun p hp => by simpa using hfz p hp
    obtain ⟨T2, hT2⟩ : ∃ T2, T2 = new ++ rest := ⟨_, rfl⟩
    rw [← hT2] at N3
    have hne1 : ∀ p ∈ T2, p.1 ≠ fl := fun p hp => by
      rw [hT2] at hp
      rcases List.mem_append.mp hp with hp | hp
      · have := hnD p hp; simp at this; exact this.1
      · exact Nat.ne_of_lt (allLt_out l1.2 p hp)
    have hne2 : ∀ p ∈ T2, p.1 ≠ sp := fun p hp => by
      rw [hT2] at hp
      rcases List.mem_append.mp hp with hp | hp
      · have := hnD p hp; simp at this; exact this.2
      · exact hne p hp
    obtain ⟨cvs, cn', cfz, ccs, cx, cy, ctx, cty⟩ := c
    dsimp only at hPc hPn hPb hPx hPy hPy2 hPc' F3 N3
    have hlen : ccs.length = 2 ∨ ccs.length = 3 := by omega
    have hsub : ∀ p ∈ new, p ∈ T2 := fun p hp => by rw [hT2]; exact List.mem_append.mpr (.inl hp)
    have hPT : CompsIn w ((fl, listOf cvs.toArray cn') :: (sp, listOf #[.int cx ctx, .int cy cty] n) :: T2) cvs ccs := hPc'.mono fun p hp => List.mem_cons_of_mem _ (List.mem_cons_of_mem _ (hsub p hp))
    have hvl := hPT.len
    have hpos : 0 < ccs.length := by omega
    have hloA : ∀ c ∈ ccs, 0 ≤ c.across := fun c hc => by have := (hPb c hc).1; omega
    have hloD : ∀ c ∈ ccs, 0 ≤ c.down := fun c hc => by have := (hPb c hc).2; omega
    have hmA := mxA_bounds hpos fun c hc => (hPb c hc).1
    have hmD := mxD_bounds hpos fun c hc => (hPb c hc).2
    replace F3 := frame_map F3
    clear hfz hPc hPn lF Fb Nb hR hF hN hK
    dsimp only
    refine stmt_step (R := fun s' => ∃ h tk t1 t2, s' = { s with heap := h, toks := tk } ∧ Fr g1 L1 h (mapFr u sp fl [(Str.ofString "wide", .int (8 * (ccs.foldl (fun x c => max x c.across) 0)) t1), (Str.ofString "high", .int (8 * (ccs.foldl (fun x c => max x c.down) 0)) t2)]) ∧ News g1 L1 h ((fl, listOf cvs.toArray cn') :: (sp, listOf #[.int cx ctx, .int cy cty] n) :: T2)) ?b1 ?k1
    case b1 =>
      k_steps
      refine stop_go ?_
      refine LCg.CompSrc.ledger (its := cvs.toArray) (k := cn') rfl (by assumption) (by assumption) (by k_mem) (by rw [List.size_toArray, sizeLine_eq]; omega) (fun g' => ?_)
      refine compRest_inv cvs.toArray.size (fun j ys2 nx => nx = _ ∧ IntsAre ys2 ((ccs.map Cmp.across).take j)) ?stepA ?finA _ 0 [] _ rfl ⟨rfl, .nil⟩
      case stepA =>
        intro j ys2 nx v2 I oI C2 oC2 D2 m3 hh3 tk3 E3 hj hinv hv2 hC2 hx2 F4 N4 off4 ne4
        obtain ⟨rfl, hi2⟩ := hinv
        obtain ⟨c9, hc9, a9, d9, _, _, _, _, _, _, _, _, _, rfl, ha9, hd9⟩ := hPT.at (by simpa using hv2)
        k_steps
        rw [take_map_succ hc9]
        exact hi2.append (.cons _ _ .nil)
      case finA =>
        rintro ys2 nx ⟨rfl, hi2⟩ D2 h5 tk5 F5 N5 o5
        rw [List.take_of_length_le (by rw [List.length_map, List.size_toArray, hvl]; exact Nat.le_refl _)] at hi2
        k_steps
        refine stop_go ?_
        refine LCg.CompSrc.ledger (its := cvs.toArray) (k := cn') rfl (by assumption) (by assumption) (by k_mem) (by rw [List.size_toArray, sizeLine_eq]; omega) (fun g' => ?_)
        refine compRest_inv cvs.toArray.size (fun j ys2 nx => nx = _ ∧ IntsAre ys2 ((ccs.map Cmp.down).take j)) ?stepD ?finD _ 0 [] _ rfl ⟨rfl, .nil⟩
        case stepD =>
          intro j ys2 nx v2 I oI C2 oC2 D2 m3 hh3 tk3 E3 hj hinv hv2 hC2 hx2 F4 N4 off4 ne4
          obtain ⟨rfl, hi2⟩ := hinv
          obtain ⟨c9, hc9, a9, d9, _, _, _, _, _, _, _, _, _, rfl, ha9, hd9⟩ := hPT.at (by simpa using hv2)
          k_steps
          rw [take_map_succ hc9]
          exact hi2.append (.cons _ _ .nil)
        case finD =>
          rintro ys3 nx3 ⟨rfl, hi3⟩ D3 h6 tk6 F6 N6 o6
          rw [List.take_of_length_le (by rw [List.length_map, List.size_toArray, hvl]; exact Nat.le_refl _)] at hi3
          k_steps
          rename Fr _ _ _ _ => F7
          rename News _ _ _ _ => N7
          exact ⟨by trivial, _, _, _, _, rfl, mapFr_put2 F7, fun q hq => N7 q (by k_mem)⟩
    case k1 =>
      rintro s1 ⟨h1, tk1, t1, t2, rfl, F5, N5⟩
      clear F3 N3
      obtain ⟨MA, hMA⟩ : ∃ M, M = (ccs.foldl (fun x c => max x c.across) 0) := ⟨_, rfl⟩
      obtain ⟨MD, hMD⟩ : ∃ M, M = (ccs.foldl (fun x c => max x c.down) 0) := ⟨_, rfl⟩
      rw [← hMA] at F5 hmA
      rw [← hMD] at F5 hmD
      have hA1 : 1 ≤ 8 * MA := by omega
      have hD1 : 1 ≤ 8 * MD := by omega
      refine stmt_step (R := fun s' => ∃ h tk cx cy ctx cty v1 v2 t3, s' = { s with heap := h, toks := tk } ∧ (0 ≤ v1 ∧ v1 < 2 ∧ 0 ≤ v2 ∧ v2 < 8 * MA) ∧ (0 ≤ cx ∧ 0 ≤ cy ∧ cy < 4294967296) ∧ Fr g1 L1 h (mapFr u sp fl [(Str.ofString "width", .int (8 * MA * (1 + v1) - v2) t3), (Str.ofString "wide", .int (8 * MA) t1), (Str.ofString "high", .int (8 * MD) t2)]) ∧ News g1 L1 h ((fl, listOf cvs.toArray cn') :: (sp, listOf #[.int cx ctx, .int cy cty] n) :: T2)) ?b2 ?k2
      case b2 =>
        k_steps
        rename Fr _ _ _ _ => F7
        rename News _ _ _ _ => N7
        exact ⟨by trivial, _, _, _, _, _, _, _, _, _, rfl, ⟨by assumption, by assumption, by assumption, by assumption⟩, ⟨by assumption, by assumption, by assumption⟩, mapFr_put F7, N7⟩
      case k2 =>
        rintro s2 ⟨h2, tk2, cx2, cy2, ctx2, cty2, v1, v2, t3, rfl, ⟨p1, p2, p3, p4⟩, ⟨q1, q2, q3⟩, F6, N6⟩
        clear F5 N5
        have sA := side_ok hmA p1 p2 p3 p4
        obtain ⟨wd, hwd⟩ : ∃ x, x = 8 * MA * (1 + v1) - v2 := ⟨_, rfl⟩
        rw [← hwd] at F6 sA
        clear p1 p2 p3 p4 hPx hPy hPy2
        refine stmt_step (R := fun s' => ∃ h tk cx cy ctx cty v1 v2 t4, s' = { s with heap := h, toks := tk } ∧ (0 ≤ v1 ∧ v1 < 2 ∧ 0 ≤ v2 ∧ v2 < 8 * MD) ∧ (0 ≤ cx ∧ 0 ≤ cy ∧ cy < 4294967296) ∧ Fr g1 L1 h (mapFr u sp fl [(Str.ofString "height", .int (8 * MD * (1 + v1) - v2) t4), (Str.ofString "width", .int wd t3), (Str.ofString "wide", .int (8 * MA) t1), (Str.ofString "high", .int (8 * MD) t2)]) ∧ News g1 L1 h ((fl, listOf cvs.toArray cn') :: (sp, listOf #[.int cx ctx, .int cy cty] n) :: T2)) ?b3 ?k3
        case b3 =>
          k_steps
          rename Fr _ _ _ _ => F7
          rename News _ _ _ _ => N7
          exact ⟨by trivial, _, _, _, _, _, _, _, _, _, rfl, ⟨by assumption, by assumption, by assumption, by assumption⟩, ⟨by assumption, by assumption, by assumption⟩, mapFr_put F7, N7⟩
        case k3 =>
          rintro s3 ⟨h3, tk3, xq, yq, txq, tyq, v3, v4, t4, rfl, ⟨p1, p2, p3, p4⟩, ⟨r1, r2, r3⟩, F7, N7⟩
          clear F6 N6
          have sD := side_ok hmD p1 p2 p3 p4
          obtain ⟨ht, hht⟩ : ∃ x, x = 8 * MD * (1 + v3) - v4 := ⟨_, rfl⟩
          rw [← hht] at F7 sD
          clear p1 p2 p3 p4 q1 q2 q3
          k_steps
          rename_i xf df _ _ _ zz1 zz2 _ _ _ _ _ _ _ _ _ _ _ _ _ _ _ _ _ _ _ kF kN _ _
          subst hT2
          refine hret xf ⟨ht, wd, ccs⟩ (_ :: _ :: _ :: new) xq yq txq tyq _ _ r1 r2 r3 kF (frame_rot kN) ?_ ⟨df, fl, _, _, _, _, _, _, _, _, _, _, _, _, _, _, List.mem_cons_self, List.mem_cons_of_mem _ List.mem_cons_self, List.mem_cons_of_mem _ (List.mem_cons_of_mem _ List.mem_cons_self), hPc'.mono fun p hp => List.mem_cons_of_mem _ (List.mem_cons_of_mem _ (List.mem_cons_of_mem _ hp))⟩ ⟨hlen, fun k hk' => (hPb k hk').1, fun k hk' => (hPb k hk').2, sA, sD⟩
          have hap2 : ∀ p ∈ rest, p.1 < df := fun p hp => allLt_out zz1.2.2 p (List.mem_append.mpr (.inr hp))
          refine Apart.cons (fun p hp => ?_) (Apart.cons (fun p hp => ?_) (Apart.cons (fun p hp => ?_) (fun q hq p hp => ?_)))
          · rcases List.mem_cons.mp hp with rfl | hp
            · exact Nat.ne_of_lt (Nat.lt_trans zz1.2.1 zz2)
            · exact Nat.ne_of_lt (Nat.lt_trans (hap2 p hp) zz2)
          · rcases List.mem_cons.mp hp with rfl | hp
            · exact Nat.ne_of_lt zz1.2.1
            · exact Nat.ne_of_lt (hap2 p hp)
          · rcases List.mem_cons.mp hp with rfl | hp
            · exact Nat.ne_of_lt l1.1
            · exact Nat.ne_of_lt (allLt_out l1.2 p hp)
          · rcases List.mem_cons.mp hp with rfl | hp
            · have := hnD q hq
              simp at this
              exact fun e => this.2 e.symm
            · exact hap q hq p hp
end
end
-- C11
theorem cut_at : ∀ {vs : List Value} {k : Nat} {y : Value}, vs[k]? = some y → kl_cut vs k = some (vs.take k, y, vs.drop (k + 1))
  | [], k, y, h => by simp at h
  | v :: vs, 0, y, h => by simp at h; subst h; rfl
  | v :: vs, k + 1, y, h => by
    have e := cut_at (vs := vs) (k := k) (by simpa using h)
    simp only [kl_cut, e, List.take_succ_cons, List.drop_succ_cons]
theorem ints_erase : ∀ {vs : List Value} {ns : List Int} (k : Nat), IntsAre vs ns → IntsAre (vs.take k ++ vs.drop (k + 1)) (ns.eraseIdx k)
  | _, _, k, .nil => by simpa using .nil
  | _, _, 0, .cons a t h => by simpa using h
  | _, _, k + 1, .cons a t h => by
    simpa using IntsAre.cons a t (ints_erase k h)
section
variable {prog : Program} {w : World} {A : Around} {E : Value → Shared → Prop} {s : Shared} {h₀ : Heap} {L D : Addr} {m : Str → Option Value} {news news' : List (Addr × Obj)} {n : Nat}
theorem pop_in {vs : List Value} {ns : List Int} {v : Int} {u : Tok} {Q : Value → Shared → Prop} (hi : IntsAre vs ns) (h0 : 0 ≤ v) (h1 : v < (vs.length : Int)) (F : Fr h₀ L s.heap m) (N : News h₀ L s.heap news)
    (U : Upd D (listOf vs.toArray n) (listOf (vs.take v.toNat ++ vs.drop (v.toNat + 1)).toArray (n + 1)) news news') (hz : vs.length ≤ 100000)
    (h : ∀ k t h', ns[v.toNat]? = some k → IntsAre (vs.take v.toNat ++ vs.drop (v.toNat + 1)) (ns.eraseIdx v.toNat) → Fr h₀ L h' m → News h₀ L h' news' → Q (.int k t) { s with heap := h' }) : wpAny (model prog w) A (call (.builtin "list.pop") [.ref D, .int v u]) Q E s := by
  have hl := hi.length
  have hn : ns[v.toNat]? = some (ns[v.toNat]'(by omega)) := List.getElem?_eq_getElem (by omega)
  obtain ⟨t, hv⟩ := hi.get _ _ hn
  have hf : Builtin.List.listFitsIndex v = true := by
    unfold Builtin.List.listFitsIndex
    have a1 : decide (-9223372036854775808 ≤ v) = true := decide_eq_true (by omega)
    have a2 : decide (v < 9223372036854775808) = true := decide_eq_true (by omega)
    simp; omega
  refine kl_popAt (k := v.toNat) (p := vs.take v.toNat) (q := vs.drop (v.toNat + 1)) F N hf ?_ (cut_at hv) U (by rw [sizeLine_eq]; simp; omega) fun h' F' N' => h _ t h' hn (ints_erase _ hi) F' N'
  have e := StrLaws.seqIndex_nonneg h0 h1
  simpa using e
def iota (k : Nat) : List Int := (List.range k).map fun (i : Nat) => (i : Int)
theorem list_range_in {r : Addr} {k : Nat} {t u v : Tok} {Q : Value → Shared → Prop} (hh : A.handled = none) (F : Fr h₀ L s.heap m) (N : News h₀ L s.heap news) (hr : IsRange s.heap r 0 (k : Int) 1 t u v) (hk : k ≤ 1000)
    (h : ∀ D ys c h' tk, Fr h₀ L h' m → News h₀ L h' ((D, listOf ys.toArray c) :: news) → (∀ q ∈ news, q.1 < D) → IntsAre ys (iota k) → Q (.ref D) { s with heap := h', toks := tk }) :
    wpAny (model prog w) A (call (.type "list") [.ref r]) Q E s := by
  refine list_rangeD hh F N hr (small_one (by omega) (by omega) (by omega) (by omega)) (n := k) (rangeSize_toNat (by omega) |>.trans (by simp)) (by omega) fun h' tk ys F' N' _ hn _ hp hc => ?_
  obtain ⟨c, N2, _⟩ := gn_enter hp F' N' hn
  refine h _ ys c h' tk F' N2 (fun q hq => Heap.lt_size (N q hq).1) ?_
  have e := IntsAre.ofCarried hc
  have e2 : rangeInts 0 1 k = iota k := by
    unfold rangeInts iota
    refine List.map_congr_left fun i _ => ?_
    omega
  rwa [e2] at e
end
local macro_rules | `(tactic| walk_at "call builtin:list.pop") => `(tactic| (k_here; (try simp only [List.cons_append, List.nil_append]); k_dflt (refine' pop_in ?k1 ?k2 ?k3 ?k4 ?k5 ?k6 ?k7 ?_; (case k4 => k_asm); (case k5 => k_asm); (case k6 => k_upd); (case k1 => assumption); (case k2 => omega); (case k3 => omega); (case k7 => omega); k_whole); intro k' t' h' hk' hi' F' N'; (try k_sweep)))
local macro_rules | `(tactic| walk_at "call type:list") => `(tactic| (k_here; (with_reducible show wpAny _ _ (call (Value.type _) [Value.ref _]) _ _ _); (with_unfolding_all refine' list_range_in ?k1 ?k2 ?k3 ?k4 ?k5 ?_; (case k2 => k_asm); (case k3 => k_asm); (case k4 => assumption); (case k1 => rfl); (case k5 => omega); k_whole); intro D' ys' c' h' tk' F' N' l1' hi'; (try k_lt l1'); (try k_sweep)))

theorem order_rot {h₀ h : Heap} {L : Addr} {a b c : Addr × Obj} {T : List (Addr × Obj)} (N : News h₀ L h (a :: b :: c :: T)) : News h₀ L h (c :: a :: b :: T) := fun p hp => N p (by
  simp only [List.mem_cons] at hp ⊢
  rcases hp with hp | hp | hp | hp <;> simp [hp])
theorem erase_perm {α : Type} {l : List α} {i : Nat} (h : i < l.length) : (l[i] :: l.eraseIdx i).Perm l := by
  have e : l = l.take i ++ l[i] :: l.drop (i + 1) := by
    rw [← List.drop_eq_getElem_cons h, List.take_append_drop]
  rw [List.eraseIdx_eq_take_drop_succ]
  conv => rhs; rw [e]
  exact List.perm_middle.symm
/-- what the order's loop changes -/
structure OS where
  lv : List Value
  ln : Nat
  ls : List Int
  fv : List Value
  fn : Nat
  fs : List Int
  x : Int
  y : Int
  tx : Tok
  ty : Tok
section
variable {w : World} {mean : ExcName → Option Value} {mg mb : Str → Option Value} {dp un : Nat} {gd : Option (List Code)} {cn : Str} {cs : Scope} {a : Addr} {ccd : Value} {cl : List (Str × Addr)} {outer : List Env} {A₀ : Around} {base h₀ : Heap} {L : Addr} {m : Str → Option Value} {s : Shared} {Q E : Value → Shared → Prop} {news : List (Addr × Obj)}

set_option maxHeartbeats 4000000 in
theorem order_spec {sp : Addr} {x y : Int} {tx ty tm : Tok} {n k : Nat} {rest : List (Addr × Obj)} (B : Below A₀ base outer h₀) (F : Fr h₀ L s.heap m) (X : (hd.heap_1 w.params).In h₀) (N : News h₀ L s.heap ((sp, listOf #[.int x tx, .int y ty] n) :: rest)) (T : Top lview (looseW lview []) mean mg mb h₀) (hk : cs.kind = .function)
    (hdp : dp + 6 < recursionLimit) (hun : un + 48 < cLine)
    (hne : ∀ p ∈ rest, p.1 ≠ sp) (hx : 0 ≤ x) (hy : 0 ≤ y) (hy2 : y < 4294967296) (hk1 : 2 ≤ k) (hk2 : k ≤ 3)
    (hret : ∀ r ps vs n' new x' y' tx' ty' h' tk', 0 ≤ x' → 0 ≤ y' → y' < 4294967296 → Fr h₀ L h' m → News h₀ L h' ((sp, listOf #[.int x' tx', .int y' ty'] n) :: (new ++ rest)) → Apart new ((sp, listOf #[.int x' tx', .int y' ty'] n) :: rest) → (r, listOf vs.toArray n') ∈ new → IntsAre vs ps → PlacesOk k ps → Q (.ref r) { s with heap := h', toks := tk' }) :
    wpAny (model PySem.Challenge.rw_pf0231_01.row.prog w) (ktrTop dp un gd cn cs L a ccd cl outer) (call (.ref 211) [.ref sp, .int (k : Int) tm]) Q E s := by
  w_on
  have hz : PySem.Challenge.rw_pf0231_01 = PySem.Challenge.rw_pf0231_01 ∧ hd.heap_1 = hd.heap_1 := by
    k_fill
    exact ⟨rfl, rfl⟩
  clear hz
  refine wpAny_call ?_
  k_dflt ktr_enter
  k_steps
  rename_i le ys c0 _ _ hi0 l1 fo _ l2 dt _ _ _ _ _ _ _ v0 _ x1 y1 tx1 ty1 _ _ hv1 hv2 hx1 hy1 hy3 _ _ _ tk1 _ _ _ hR hF hN hK
  unfold MyLoop
  refine for_rng (σ := OS) (n := (1 + v0).toNat) (fun c => [(fo, listOf c.fv.toArray c.fn), (le, listOf c.lv.toArray c.ln), (sp, listOf #[.int c.x c.tx, .int c.y c.ty] n)]) [fo, le, sp] (fun _ => []) (fun _ => []) []
    (fun i c => IntsAre c.lv c.ls ∧ IntsAre c.fv c.fs ∧ c.fs.length = i ∧ (c.fs ++ c.ls).Perm (iota k) ∧ 0 ≤ c.x ∧ 0 ≤ c.y ∧ c.y < 4294967296) rest ⟨ys, c0, iota k, [], 0, [], x1, y1, tx1, ty1⟩ rfl hR (small_one (by omega) (by omega) (by omega) (by omega)) (rangeSize_toNat (by omega)) hF hN (fun p hp => by
      simp only [List.cons_append, List.nil_append, List.mem_cons] at hp ⊢
      rcases hp with hp | hp | hp | hp <;> simp [hp]) (fun _ => rfl)
    (fun p hp => by simpa using ⟨Nat.ne_of_lt (allLt_out l2.2.2 p hp), Nat.ne_of_lt (allLt_out l1.2 p hp), hne p hp⟩) (fun _ h => nomatch h) (fun _ h => nomatch h) ⟨hi0, .nil, rfl, List.Perm.refl _, hx1, hy1, hy3⟩ ?turn ?done
  case turn =>
    intro i c T' u t h tk hi hP hz hD hT F3 N3
    simp only [Int.zero_add, List.cons_append, List.nil_append] at F3 N3
    dsimp only [envOf] at F3 N3
    obtain ⟨hPl, hPf, hPn, hPp, hPx, hPy, hPy2⟩ := hP
    have hne1 : ∀ p ∈ T', p.1 ≠ fo := fun p hp => by have := hD p hp; simp at this; exact this.1
    have hne2 : ∀ p ∈ T', p.1 ≠ le := fun p hp => by have := hD p hp; simp at this; exact this.2.1
    have hne3 : ∀ p ∈ T', p.1 ≠ sp := fun p hp => by have := hD p hp; simp at this; exact this.2.2
    have hpl := hPp.length_eq
    have hik : (iota k).length = k := by simp [iota]
    rw [hik, List.length_append, hPn] at hpl
    have hll := hPl.length
    have hfl := hPf.length
    have hlk : (c.lv.length : Int) = (k : Int) - (i : Int) := by omega
    have hfk : c.fv.length = i := by omega
    k_steps
    rename_i v1 _ x2 y2 tx2 ty2 _ _ hv3 hv4 hx2 hy4 hy5 kk tt _ hkk hii h9 F9 N9
    try simp only [List.push_toArray] at N9
    have hvl : v1.toNat < c.ls.length := (List.getElem?_eq_some_iff.mp hkk).1
    have hkv : c.ls[v1.toNat] = kk := (List.getElem?_eq_some_iff.mp hkk).2
    refine ⟨⟨c.lv.take v1.toNat ++ c.lv.drop (v1.toNat + 1), c.ln + 1, c.ls.eraseIdx v1.toNat, c.fv ++ [Value.int kk tt], c.fn + 1, c.fs ++ [kk], x2, y2, tx2, ty2⟩, [], h9, _, _, rfl, F9, N9, (fun _ h => nomatch h), Apart.nil, (fun _ h => nomatch h), (by intro p h; cases h), ?_, hii, hPf.append (.cons kk tt .nil), by simp [hPn], ?_, hx2, hy4, hy5⟩
    · intro z e1 _ e3
      simp [kstB, e1]
    · rw [List.append_assoc]
      refine List.Perm.trans (List.Perm.append_left _ ?_) hPp
      have q := erase_perm hvl
      rw [hkv] at q
      exact q
  case done =>
    intro c new u h tk hP hnD hap hfz F3 N3
    simp only [List.cons_append, List.nil_append] at N3
    dsimp only [envOf] at F3 N3
    obtain ⟨hPl, hPf, hPn, hPp, hPx, hPy, hPy2⟩ := hP
    have hpl := hPp.length_eq
    have hik : (iota k).length = k := by simp [iota]
    rw [hik, List.length_append, hPn] at hpl
    k_steps
    rename_i kF kN _ _
    have hall : ∀ p ∈ c.fs, 0 ≤ p ∧ p < (k : Int) := fun p hp => by
      have := (hPp.mem_iff (a := p)).mp (List.mem_append.mpr (.inl hp))
      simp only [iota, List.mem_map, List.mem_range] at this
      obtain ⟨j, hj, rfl⟩ := this
      omega
    have hnd : (iota k).Nodup := by
      unfold iota
      exact List.pairwise_map.mpr (List.nodup_range.imp fun h e => h (by omega))
    refine hret fo c.fs c.fv c.fn ((fo, _) :: (le, _) :: new) c.x c.y c.tx c.ty _ _ hPx hPy hPy2 kF (order_rot kN) ?_ List.mem_cons_self hPf ⟨?_, by omega, hall, ((List.nodup_append.mp (hPp.nodup_iff.mpr hnd))).1⟩
    · refine Apart.cons (fun p hp => ?_) (Apart.cons (fun p hp => ?_) (fun q hq p hp => ?_))
      · rcases List.mem_cons.mp hp with rfl | hp
        · exact Nat.ne_of_lt l2.2.1
        · exact Nat.ne_of_lt (allLt_out l2.2.2 p hp)
      · rcases List.mem_cons.mp hp with rfl | hp
        · exact Nat.ne_of_lt l1.1
        · exact Nat.ne_of_lt (allLt_out l1.2 p hp)
      · rcases List.mem_cons.mp hp with rfl | hp
        · have := hnD q hq
          simp at this
          exact fun e => this.2.2 e.symm
        · exact hap q hq p hp
    · intro e
      rw [e] at hPn
      simp at hPn
      omega
end
-- C12
local macro_rules | `(tactic| walk_at "call ref") => `(tactic| (k_here; (with_reducible show wpAny _ _ (call (Value.ref 218) _) _ _ _); k_dflt (refine' pieces_spec (by k_asm) (by k_asm) (by k_asm) (by k_asm) (by k_asm) (by first | exact rfl | assumption) (by ktr_room) (by ktr_units) (by omega) (by omega) (by omega) (by omega) ?_; k_whole); intro t' h' tk' F' N'; (try k_fold)))
theorem max_mA {prog : Program} {A : Around} {w : World} {s : Shared} {E : Value → Shared → Prop} {h₀ : Heap} {L l : Addr} {m : Str → Option Value} {news : List (Addr × Obj)} {vs : List Value} {g : Geo} {Q : Value → Shared → Prop}
    (F : Fr h₀ L s.heap m) (N : News h₀ L s.heap news) (hm : (l, LCg.lst vs) ∈ news) (hi : IntsAre vs (g.comps.map Cmp.across)) (hg : g.Ok) (hh : A.handled = none)
    (h : ∀ t h' tk, Fr h₀ L h' m → News h₀ L h' news → Q (.int g.mA t) { s with heap := h', toks := tk }) :
    wpAny (model prog w) A (call (.builtin "max") [.ref l]) Q E s :=
  max_in F N hm hi (by have := hg.len; omega) (fun c hc => by have := hg.across c hc; omega) hh h
theorem max_mD {prog : Program} {A : Around} {w : World} {s : Shared} {E : Value → Shared → Prop} {h₀ : Heap} {L l : Addr} {m : Str → Option Value} {news : List (Addr × Obj)} {vs : List Value} {g : Geo} {Q : Value → Shared → Prop}
    (F : Fr h₀ L s.heap m) (N : News h₀ L s.heap news) (hm : (l, LCg.lst vs) ∈ news) (hi : IntsAre vs (g.comps.map Cmp.down)) (hg : g.Ok) (hh : A.handled = none)
    (h : ∀ t h' tk, Fr h₀ L h' m → News h₀ L h' news → Q (.int g.mD t) { s with heap := h', toks := tk }) :
    wpAny (model prog w) A (call (.builtin "max") [.ref l]) Q E s :=
  max_in F N hm hi (by have := hg.len; omega) (fun c hc => by have := hg.down c hc; omega) hh h
local macro_rules | `(tactic| walk_at "call builtin:max") => `(tactic| (k_here; (with_reducible show wpAny _ _ (call (Value.builtin _) [Value.ref _]) _ _ _); (with_unfolding_all refine' max_mA (by k_asm) (by k_asm) (by k_mem) (by assumption) (by assumption) (by with_unfolding_all rfl) ?_; k_whole); intro t' h' tk' F' N'; (try k_fold)))
local macro_rules | `(tactic| walk_at "call builtin:max") => `(tactic| (k_here; (with_reducible show wpAny _ _ (call (Value.builtin _) [Value.ref _]) _ _ _); (with_unfolding_all refine' max_mD (by k_asm) (by k_asm) (by k_mem) (by assumption) (by assumption) (by with_unfolding_all rfl) ?_; k_whole); intro t' h' tk' F' N'; (try k_fold)))
section
local macro_rules | `(tactic| walk_at "CompSrc") => `(tactic| (k_here; refine stop_here ?_))
section
variable {w : World} {mean : ExcName → Option Value} {mg mb : Str → Option Value} {dp un : Nat} {gd : Option (List Code)} {cn : Str} {cs : Scope} {a : Addr} {ccd : Value} {cl : List (Str × Addr)} {outer : List Env} {A₀ : Around} {base h₀ : Heap} {L : Addr} {m : Str → Option Value} {s : Shared} {Q E : Value → Shared → Prop} {news : List (Addr × Obj)}

set_option maxHeartbeats 4000000 in
theorem lblocks_spec {fr : Addr} {g : Geo} {p : Int} {tp : Tok} {c : Cmp} (B : Below A₀ base outer h₀) (F : Fr h₀ L s.heap m) (X : (hd.heap_1 w.params).In h₀) (N : News h₀ L s.heap news) (T : Top lview (looseW lview []) mean mg mb h₀) (hk : cs.kind = .function)
    (hdp : dp + 6 < recursionLimit) (hun : un + 48 < cLine)
    (hf : FrameIn w news fr g) (hg : g.Ok) (hp : 0 ≤ p) (hp2 : p < 3) (hc : g.comps[p.toNat]? = some c)
    (hret : ∀ r n t1 t2 h' tk', Fr h₀ L h' m → News h₀ L h' ((r, listOf #[.int (bW g c) t1, .int (bH g c) t2] n) :: news) → (∀ q ∈ news, q.1 < r) → Q (.ref r) { s with heap := h', toks := tk' }) :
    wpAny (model PySem.Challenge.rw_pf0231_01.row.prog w) (ktrTop dp un gd cn cs L a ccd cl outer) (call (.ref 223) [.ref fr, .int p tp]) Q E s := by
  w_on
  have hz : PySem.Challenge.rw_pf0231_01 = PySem.Challenge.rw_pf0231_01 ∧ hd.heap_1 = hd.heap_1 := by
    k_fill
    exact ⟨rfl, rfl⟩
  clear hz
  obtain ⟨d, l, k1, k2, k3, k4, k5, k6, t1, t2, t3, t4, t6, n, n', vs, h1, h2, h3, h4⟩ := id hf
  have hA := hg.mA
  have hD := hg.mD
  have hw := hg.width
  have hh := hg.height
  have hl := hg.len
  have hcm := List.mem_of_getElem? hc
  have hca := hg.across c hcm
  have hcd := hg.down c hcm
  have hba := hg.across
  have hbd := hg.down
  have hwc := mul_bounds hw hca
  have hhc := mul_bounds hh hcd
  have hpw : 1 ≤ prt (g.width * c.across) g.mA ∧ prt (g.width * c.across) g.mA ≤ 256 := psW_bounds hg hcm
  have hph : 1 ≤ prt (g.height * c.down) g.mD ∧ prt (g.height * c.down) g.mD ≤ 256 := psH_bounds hg hcm
  obtain ⟨v, hv, ⟨ca, cd, _, _, _, _, _, _, _, _, _, rfl, hac0, hdc0⟩⟩ := h4.get hc
--BODY1
  have hlen := h4.len
  refine wpAny_call ?_
  k_dflt ktr_enter
  rename_i g1 L1 _ _ F0 _ _ _ _
  replace F0 : Fr g1 L1 _ (mapOf [(Str.ofString "place", .int p tp), (Str.ofString "frame", .ref fr)]) := F0
  generalize s.toks + _ = tk0
  refine stmt_step (R := fun s' => ∃ h tk fo, s' = { s with heap := h, toks := tk } ∧ (∀ q ∈ news, q.1 < fo) ∧ Fr g1 L1 h (mapOf [(Str.ofString "one", .ref ca), (Str.ofString "found", .ref fo), (Str.ofString "place", .int p tp), (Str.ofString "frame", .ref fr)]) ∧ News g1 L1 h ((fo, listOf #[] 0) :: news)) ?b1 ?k1
  case b1 =>
    k_steps
    rename_i fo _ z0 _ _ _ _ _ _ F2 N2
    exact ⟨by trivial, _, _, fo, rfl, z0, fr_put2 F2, fun q hq => N2 q (List.mem_cons_of_mem _ hq)⟩
  case k1 =>
    rintro s1 ⟨h1, tk1, fo, rfl, z0, F1, N1⟩
    refine wpAny_execs_cons ?_
    k_steps
    refine stop_go ?_
    refine LCg.CompSrc.ledger (its := vs.toArray) (k := n') rfl (by assumption) (by assumption) (by k_mem) (by rw [List.size_toArray, sizeLine_eq]; omega) (fun g' => ?_)
    refine compRest_inv vs.toArray.size (fun j ys2 nx => nx = _ ∧ IntsAre ys2 ((g.comps.map Cmp.across).take j)) ?stepA ?finA _ 0 [] _ rfl ⟨rfl, .nil⟩
    case stepA =>
      intro j ys2 nx v2 I oI C2 oC2 D2 m3 hh3 tk3 E3 hj hinv hv2 hC2 hx2 F4 N4 off4 ne4
      obtain ⟨rfl, hi2⟩ := hinv
      obtain ⟨c9, hc9, a9, d9, _, _, _, _, _, _, _, _, _, rfl, ha9, hd9⟩ := h4.at (by simpa using hv2)
      k_steps
      rw [take_map_succ hc9]
      exact hi2.append (.cons _ _ .nil)
    case finA =>
      rintro ys2 nx ⟨rfl, hi2⟩ D2 h5 tk5 F5 N5 o5
      rw [List.take_of_length_le (by rw [List.length_map, List.size_toArray, hlen]; exact Nat.le_refl _)] at hi2
      dsimp only
      k_steps
      rename_i ta _ _ _ z1
      dsimp only
      refine stop_go ?_
      refine LCg.CompSrc.ledger (its := vs.toArray) (k := n') rfl (by assumption) (by assumption) (by k_mem) (by rw [List.size_toArray, sizeLine_eq]; omega) (fun g' => ?_)
      refine compRest_inv vs.toArray.size (fun j ys2 nx => nx = _ ∧ IntsAre ys2 ((g.comps.map Cmp.down).take j)) ?stepD ?finD _ 0 [] _ rfl ⟨rfl, .nil⟩
      case stepD =>
        intro j ys2 nx v2 I oI C2 oC2 D2 m3 hh3 tk3 E3 hj hinv hv2 hC2 hx2 F4 N4 off4 ne4
        obtain ⟨rfl, hi2⟩ := hinv
        obtain ⟨c9, hc9, a9, d9, _, _, _, _, _, _, _, _, _, rfl, ha9, hd9⟩ := h4.at (by simpa using hv2)
        k_steps
        rw [take_map_succ hc9]
        exact hi2.append (.cons _ _ .nil)
      case finD =>
        rintro ys3 nx3 ⟨rfl, hi3⟩ D3 h6 tk6 F6 N6 o6
        rw [List.take_of_length_le (by rw [List.length_map, List.size_toArray, hlen]; exact Nat.le_refl _)] at hi3
        dsimp only
        k_steps
        rename_i tb _ z2 ls _ FF NN z3
        dsimp only
        replace NN := news_drop (news := (ls, _) :: (tb, _) :: (ta, _) :: (fo, _) :: news) NN (by lcg_sub)
        have y1 : @LT.lt Nat _ fo ls ∧ @LT.lt Nat _ fo tb ∧ @LT.lt Nat _ fo ta ∧ @LT.lt Nat _ ta tb ∧ @LT.lt Nat _ tb ls := by
          refine ⟨?_, ?_, ?_, ?_, ?_⟩ <;> (refine ltN ?_; omega)
        have y2 : AllLt ls news := z3.2.2.2.2.2
        clear z1 z2 z3
        refine iter_listTurns (vs := [.ref ta, .ref tb]) rfl FF NN List.mem_cons_self rfl rfl (fun I hI => ItemsRest.val fun hh1 tk1 F1 => AllObj.cons fun oI hoI => AllObj.nil fun N1 => ?_)
        simp only [List.cons_append, List.nil_append] at N1
        have z0' : ∀ p ∈ news, p.1 ≠ fo := fun p hp => Nat.ne_of_lt (z0 p hp)
        have y3 : @LT.lt Nat _ ls I := hI (ls, _) List.mem_cons_self
        have hIn : ∀ p ∈ news, p.1 ≠ I := fun p hp => Nat.ne_of_lt (hI p (by simp [hp]))
        dsimp only
        k_steps
        rename Fr _ _ _ _ => FX
        rename News _ _ _ _ => NX
        try simp only [List.push_toArray] at NX
        refine ⟨_, _, _, _, rfl, FX, NX, ?_, ⟨List.mem_cons_self, trivial⟩, ItemsRest.val fun hh2 tk2 F2 => AllObj.cons fun oI2 hoI2 => AllObj.nil fun N2 => ?_⟩
        · intro p hp q hq
          rw [List.mem_singleton.mp hq]
          simp only [List.mem_cons] at hp
          rcases hp with rfl | rfl | rfl | rfl | hp
          · exact neN (by omega)
          · exact neN (by omega)
          · exact neN (by omega)
          · exact neN (by omega)
          · exact hIn p hp
        simp only [List.cons_append, List.nil_append] at N2
        dsimp only
        k_steps
        rename Fr _ _ _ _ => FX
        rename News _ _ _ _ => NX
        try simp only [List.push_toArray] at NX
        refine ⟨_, _, _, _, rfl, FX, NX, ?_, ⟨List.mem_cons_self, trivial⟩, ItemsRest.zero fun hh3 tk3 F3 N3 => ?_⟩
        · intro p hp q hq
          rw [List.mem_singleton.mp hq]
          simp only [List.mem_cons] at hp
          rcases hp with rfl | rfl | rfl | rfl | hp
          · exact neN (by omega)
          · exact neN (by omega)
          · exact neN (by omega)
          · exact neN (by omega)
          · exact hIn p hp
        dsimp only
        k_steps
        rename_i kF kN _ _
        exact hret fo _ _ _ _ _ kF (fun p hp => kN p (List.mem_cons_of_mem _ (List.mem_cons_of_mem _ (List.mem_cons_of_mem _ hp)))) z0
--BODY2
end
end
-- D1
/-- a tuple of ints in the ledger -/
def KeyIn (l : List (Addr × Obj)) (k : List Int) (a : Addr) : Prop := ∃ (vs : List Value) (n : Nat), (a, ({ cls := .type "tuple", data := .seq vs.toArray n } : Obj)) ∈ l ∧ IntsAre vs k
theorem KeyIn.mono {l l' : List (Addr × Obj)} {k : List Int} {a : Addr} (h : KeyIn l k a) (hs : ∀ p ∈ l, p ∈ l') : KeyIn l' k a :=
  let ⟨vs, n, hm, hi⟩ := h; ⟨vs, n, hs _ hm, hi⟩
abbrev tkd (prog : Program) (w : World) := tupleKind (intKind prog w)
theorem itemsAre_ints {prog : Program} {w : World} : ∀ {vs : List Value} {k : List Int}, IntsAre vs k → PySem.ItemsAre (intKind prog w) k vs
  | _, _, .nil => .nil
  | _, _, .cons k t h => .cons (by simp [intKind, Value.isInt]) (itemsAre_ints h)
theorem KeyIn.is {prog : Program} {w : World} {h₀ h : Heap} {L : Addr} {l : List (Addr × Obj)} {k : List Int} {a : Addr} (x : KeyIn l k a) (N : News h₀ L h l) : (tkd prog w).is h k a := by
  obtain ⟨vs, n, hm, hi⟩ := x
  exact ⟨_, _, n, (N _ hm).1, rfl, rfl, by simpa using itemsAre_ints hi⟩
/-- a dict by tuples of ints -/
def TDict (prog : Program) (w : World) (o : Obj) (xs : List (List Int × Addr × Value)) : Prop :=
  o.ExactDict ∧ ∃ es ep, o.data = .dict es ep ∧ es.toList = xs.map (entryOfKey (tkd prog w)) ∧ (xs.map (·.1)).Nodup
section
variable {prog : Program} {w : World} {A : Around} {E : Value → Shared → Prop} {s : Shared} {h₀ : Heap} {L d a : Addr} {m : Str → Option Value} {news : List (Addr × Obj)} {g : Obj → List (Addr × Obj)} {o : Obj} {xs : List (List Int × Addr × Value)} {k : List Int}
theorem TDict.of {h : Heap} (x : TDict prog w o xs) (N : News h₀ L h news) (hm : (d, o) ∈ news) (hk : ∀ x ∈ xs, KeyIn news x.1 x.2.1) : h.DictOfH (tkd prog w) d xs := by
  obtain ⟨hc, es, ep, hd, he, hn⟩ := x
  exact ⟨o, es, ep, (N _ hm).1, hc, hd, he, fun y hy => (hk y hy).is N, hn⟩
theorem TDict.nil (x : o.IsDictOf (intKind prog w) []) : TDict prog w o [] := by
  obtain ⟨es, ep, hc, hd, hk, hp, hn⟩ := x
  refine ⟨hc, es, ep, hd, ?_, List.nodup_nil⟩
  have : es.toList = [] := by
    generalize es.toList = l at hp
    cases hp
    rfl
  rw [this]; rfl
theorem TDict.nodup (x : TDict prog w o xs) : (xs.map (·.1)).Nodup := let ⟨_, _, _, _, _, h⟩ := x; h
theorem put_in {v : Value} {Q : Unit → Shared → Prop} (F : Fr h₀ L s.heap m) (N : News h₀ L s.heap news) (U : UpdF d o news g) (TD : TDict prog w o xs) (hkey : KeyIn news k a) (hks : ∀ x ∈ xs, KeyIn news x.1 x.2.1)
    (hnew : atKey xs k = none) (hu : A.units + 1 < cLine) (hsz : xs.length ≤ 1000000)
    (h : ∀ h' o' tk', Fr h₀ L h' m → News h₀ L h' (g o') → TDict prog w o' (xs ++ [(k, a, v)]) → Q () { s with heap := h', toks := tk' }) :
    wpAny (model prog w) A (setItem (.ref d) (.ref a) v) Q E s := by
  obtain ⟨pre, post, rfl, hg, h1, h2⟩ := U.split
  have hm : (d, o) ∈ pre ++ (d, o) :: post := List.mem_append.mpr (.inr (.head _))
  have hD := TD.of N hm hks
  refine wpAny_setItem_heap (knd := tkd prog w) (tupleKind_room_in1 hu) (hkey.is N) hD (fun h' hD' hs => ?_) (by rw [sizeLine_eq]; omega)
  rw [storedH_new hnew] at hD'
  obtain ⟨o', es, ep, ho', hc, hd, he, his, hn⟩ := hD'
  exact h h' o' _ (F.change hs (N _ hm).2.1 (N _ hm).2.2) (hg o' ▸ news_set N h1 h2 hs ho') ⟨hc, es, ep, hd, he, hn⟩
theorem get_in {v : Value} {Q : Value → Shared → Prop} (N : News h₀ L s.heap news) (hm : (d, o) ∈ news) (TD : TDict prog w o xs) (hkey : KeyIn news k a) (hks : ∀ x ∈ xs, KeyIn news x.1 x.2.1)
    (hd : (d == sysModules) = false) (hu : A.units + 1 < cLine) (hv : ((atKey xs k).map (·.2)).getD .none = v)
    (h : ∀ tk', Q v { s with toks := tk' }) : wpAny (model prog w) A (call (.builtin "dict.get") [.ref d, .ref a]) Q E s := by
  have hD := TD.of N hm hks
  exact call_meetsIn F.slot_dict_get hD.typeIs F.entry_dict_get (F.args_dict_get_2 _ _) (meetsH_dict_get (tkd prog w) d a hd) ⟨tupleKind_room_in1 hu, k, xs, hkey.is N, hD, hv ▸ h _⟩
theorem tdict_len {Q : Value → Shared → Prop} (N : News h₀ L s.heap news) (hm : (d, o) ∈ news) (TD : TDict prog w o xs) (hd : (d == sysModules) = false) (hsz : xs.length ≤ 1000000)
    (h : ∀ t tk', Q (.int xs.length t) { s with toks := tk' }) : wpAny (model prog w) A (call (.builtin "len") [.ref d]) Q E s := by
  obtain ⟨hc, es, ep, hdt, he, hn⟩ := TD
  have hT : s.TypeIs (.ref d) "dict" := ⟨o, (N _ hm).1, hc.1⟩
  have hl : es.size = xs.length := size_of_entries he
  refine call_len_slot (n := (xs.length : Int)) hT F.slot_dict_len (fun Q' hq => ?_) (by omega) (by omega) (h _ _)
  refine wpAny_call_entry F.slot_dict_len hT F.entry_dict_len ?_ (F.args_dict_len_1 _)
  show wpAny _ _ (dictSize d >>= _) _ _ s
  unfold dictSize
  refine wpAny_bind (wpAny_bind (wpAny_dictEntries (N _ hm).1 hdt (wpAny_pure ?_)))
  show wpAny _ _ (Builtin.Dict.pendingCount d >>= _) _ _ s
  refine wpAny_bind (wpAny_pendingCount_other hd ?_)
  refine wpAny_ret_mkInt ?_
  rw [hl]
  have e : ((xs.length : Int) + ((0 : Nat) : Int)) = (xs.length : Int) := by omega
  rw [e]
  exact hq
end
theorem keys_miss : typeLookup (.type "list") "keys" = pure none := am_miss_of_fast (by decide +kernel)
section
variable {prog : Program} {w : World} {A : Around} {E : Value → Shared → Prop} {s : Shared}
theorem getAttrQ_miss {a : Addr} {xs : Array Value} {k : Nat} {Q : Option Value → Shared → Prop} (hx : s.heap.get? a = some (listOf xs k)) (hA : A.handled = none)
    (h : ∀ h' tk, (∀ b o, s.heap.get? b = some o → h'.get? b = some o) → Q none { s with heap := h', toks := tk }) : wpAny (model prog w) A (getAttr? (.ref a) "keys") Q E s := by
  have hmiss := keys_miss
  obtain ⟨hp, g, d, tk, os⟩ := s
  have hT : ∀ tk', (⟨hp, g, d, tk', os⟩ : Shared).TypeIs (.ref a) "list" := fun _ => ⟨_, hx, rfl⟩
  have f1 := sub_AttributeError
  have f3 := F.slot_list_getattribute.lookup
  have f4 := F.slot_list_getattribute.bind (.ref a)
  have f5 := am_list_getattr_none
  unfold getAttr? getAttrBy? getAttrBy
  repeat (any_goals (first | assumption | exact hT _ | ((with_reducible show wpAny _ _ (call (Value.builtin "list.__getattribute__") _ _) _ _ _); refine call_meets F.slot_list_getattribute (hT _) am_entry_list_getattribute (F.args_list_getattribute_2 _ _) (meets_getattribute_miss_list a xs k #[] _ _ hmiss (by decide) (by size_fits)) ⟨hx, hA, fun h' tk' e hx' => ?_⟩) | wp_step))
  obtain ⟨t', u', he⟩ := hx'.there
  show wpAny _ _ (getattributeRaised _ _ _ _ _ _ _) _ _ _
  unfold getattributeRaised
  repeat (any_goals (first | assumption | wp_step))
  exact h _ _ hx'.keeps
end
/-- pairs of a key tuple and a value, in the ledger -/
def PairsIn (l : List (Addr × Obj)) : List Value → List (List Int × Addr × Value) → Prop
  | [], [] => True
  | v :: vs, x :: xs => (∃ (p : Addr) (n : Nat), v = .ref p ∧ (p, ({ cls := .type "tuple", data := .seq #[.ref x.2.1, x.2.2] n } : Obj)) ∈ l ∧ KeyIn l x.1 x.2.1) ∧ PairsIn l vs xs
  | _, _ => False
theorem PairsIn.length {l : List (Addr × Obj)} : ∀ {vs : List Value} {xs : List (List Int × Addr × Value)}, PairsIn l vs xs → vs.length = xs.length
  | [], [], _ => rfl
  | _ :: _, _ :: _, h => congrArg (· + 1) h.2.length
  | [], _ :: _, h => h.elim
  | _ :: _, [], h => h.elim
theorem PairsIn.get {l : List (Addr × Obj)} : ∀ {vs : List Value} {xs : List (List Int × Addr × Value)}, PairsIn l vs xs → ∀ {i : Nat} {v : Value} {x : List Int × Addr × Value}, vs[i]? = some v → xs[i]? = some x → ∃ (p : Addr) (n : Nat), v = .ref p ∧ (p, ({ cls := .type "tuple", data := .seq #[.ref x.2.1, x.2.2] n } : Obj)) ∈ l ∧ KeyIn l x.1 x.2.1
  | [], [], _, i, v, x, h, _ => by simp at h
  | _ :: _, _ :: _, h, 0, v, x, h1, h2 => by simp at h1 h2; subst h1 h2; exact h.1
  | _ :: _, _ :: _, h, i + 1, v, x, h1, h2 => h.2.get (i := i) (by simpa using h1) (by simpa using h2)
  | [], _ :: _, h, _, _, _, _, _ => h.elim
  | _ :: _, [], h, _, _, _, _, _ => h.elim
theorem plain_update_loop : plainId "dict.update.loop" = true := by decide +kernel
theorem entry_update_loop : entryFor table "dict.update.loop" = some Builtin.«dict.update.loop» := entryFor_of_fast (by kernel_rfl)
section
variable {prog : Program} {w : World} {A : Around} {E : Value → Shared → Prop} {s : Shared}
theorem pairItems_tup {p : Addr} {a b : Value} {n : Nat} {Q : List Value → Shared → Prop} (hp : s.heap.get? p = some { cls := .type "tuple", data := .seq #[a, b] n }) (h : Q [a, b] s) :
    wpAny (model prog w) A (Builtin.Dict.pairItems (.ref p)) Q E s := by
  unfold Builtin.Dict.pairItems
  refine wpAny_bind (wpAny_typeOf (T := "tuple") ⟨_, hp, rfl⟩ ?_)
  rw [if_pos (by decide)]
  exact wpAny_bind (wpAny_seqItems hp rfl (wpAny_pure h))
theorem dictH_keep {h h' : Heap} {d : Addr} {xs : List (List Int × Addr × Value)} (x : h.DictOfH (tkd prog w) d xs) (hd : ∀ o, h.get? d = some o → h'.get? d = some o) (hk : ∀ y ∈ xs, ∀ o, h.get? y.2.1 = some o → h'.get? y.2.1 = some o) : h'.DictOfH (tkd prog w) d xs := by
  obtain ⟨o, es, ep, ho, hc, hdt, he, his, hn⟩ := x
  exact ⟨o, es, ep, hd o ho, hc, hdt, he, fun y hy => let ⟨ob, it, n, h1, h2⟩ := his y hy; ⟨ob, it, n, hk y hy ob h1, h2⟩, hn⟩
/-- the loop of dict(pairs) -/
theorem update_loop {R : Result → Shared → Prop} {d l I : Addr} {vs : List Value} {xs : List (List Int × Addr × Value)} {res : Value} (hh : A.handled = none) (hu : A.units + 4 < cLine) (hn : (xs.map (·.1)).Nodup) (hsz : xs.length ≤ 1000000) (hlen : vs.length = xs.length)
    (hdI : d ≠ I) (hdl : d ≠ l) (hlI : l ≠ I) (h₁ : Heap) (hkI : ∀ y ∈ xs, y.2.1 ≠ I)
    (hpair : ∀ (i : Nat) (v : Value) (x : List Int × Addr × Value), vs[i]? = some v → xs[i]? = some x → ∃ (p : Addr) (n : Nat), v = .ref p ∧ h₁.get? p = some { cls := .type "tuple", data := .seq #[.ref x.2.1, x.2.2] n } ∧ p ≠ d ∧ p ≠ I ∧ IsTupleKey (intKind prog w) h₁ x.1 x.2.1 ∧ x.2.1 ≠ d ∧ x.2.1 ≠ I)
    (hR : ∀ h' tk, h'.DictOfH (tkd prog w) d xs → (∀ b o, b ≠ d → b ≠ I → h₁.get? b = some o → h'.get? b = some o) → R (.ok (.ret res)) { s with heap := h', toks := tk }) :
    ∀ (k i : Nat) (h : Heap) (tk : Nat) (j : Int), xs.length - i = k → i ≤ xs.length → h.IsListIter I l i → h.IsList l vs.toArray → h.DictOfH (tkd prog w) d (xs.take i) → (∀ b o, b ≠ d → b ≠ I → h₁.get? b = some o → h.get? b = some o) →
      codeAny (model prog w) A (.builtin "dict.update.loop" ⟨[.ref d, .ref I, rawInt j, res], []⟩) R { s with heap := h, toks := tk } := by
  have W := Walks.list (prog := prog) (w := w) (A := A.in1) hh I l hlI vs.toArray
  intro k
  induction k with
  | zero =>
    intro i h tk j hk hi hit hl hd hold
    have hin : i = xs.length := by omega
    refine codeAny_builtin entry_update_loop ?_
    rw [Around.under_plainId plain_update_loop _]
    show wpAny _ A.in1 (pyNext (.ref I) >>= _) _ _ _
    refine wpAny_bind (W.done { s with heap := h, toks := tk } _ _ ⟨by simpa [hlen, hin] using hit, hl⟩ fun h' tk' hk' => ?_)
    show wpAny _ _ (Builtin.Dict.addKeywords d [] >>= _) _ _ _
    have hd' := hd
    rw [hin, List.take_of_length_le (Nat.le_refl _)] at hd'
    refine wpAny_bind (wpAny_pure (wpAny_pure (hR h' tk' (dictH_keep hd' (fun o e => hk' d o (by simpa using hdI) e) fun y hy o e => hk' _ o (by simpa using hkI y hy) e) fun b o h1 h2 e => hk' b o (by simpa using h2) (hold b o h1 h2 e))))
  | succ k ih =>
    intro i h tk j hk hi hit hl hd hold
    have hlt : i < xs.length := by omega
    have hx : xs[i]? = some xs[i] := List.getElem?_eq_getElem hlt
    have hv : vs[i]? = some (vs[i]'(by omega)) := List.getElem?_eq_getElem (by omega)
    obtain ⟨p, n, ev, hp, hpd, hpI, hkey, hkd, hki⟩ := hpair i _ _ hv hx
    refine codeAny_builtin entry_update_loop ?_
    rw [Around.under_plainId plain_update_loop _]
    show wpAny _ A.in1 (pyNext (.ref I) >>= _) _ _ _
    refine wpAny_bind (W.item i { s with heap := h, toks := tk } _ _ (by simpa [hlen] using hlt) ⟨hit, hl⟩ fun v h' tk' hv' st' hk' => ?_)
    have ev' : v = .ref p := by
      rw [← ev]
      have : vs[i]? = some v := by simpa using hv'
      rw [hv] at this
      exact (Option.some.inj this).symm
    subst ev'
    refine wpAny_bind (wpAny_holding ?_)
    refine wpAny_bind (wpAny_tryCatch (pairItems_tup (hk' p _ (by simpa using hpI) (hold p _ hpd hpI hp)) ?_))
    show wpAny _ _ (holding [_, _] (dictSet d (.ref xs[i].2.1) xs[i].2.2)) _ _ _
    refine wpAny_holding ?_
    have hkey' : (tkd prog w).is h' xs[i].1 xs[i].2.1 := by
      obtain ⟨ob, it, nn, h1, h2⟩ := hkey
      exact ⟨ob, it, nn, hk' _ _ (by simpa using hki) (hold _ _ hkd hki h1), h2⟩
    have hd' : h'.DictOfH (tkd prog w) d (xs.take i) := dictH_keep hd (fun o e => hk' d o (by simpa using hdI) e) fun y hy o e => hk' _ o (by simpa using hkI y (List.mem_of_mem_take hy)) e
    have hnew : atKey (xs.take i) xs[i].1 = none := by
      refine atKey_none_of_get fun q pp hq => ?_
      have hq2 : (xs.take i)[q]? = some (xs[i].1, pp) := hq
      have hqi : q < i := by
        have := (List.getElem?_eq_some_iff.mp hq2).1
        simp at this
        omega
      have hq3 : xs[q]? = some (xs[i].1, pp) := by rw [List.getElem?_take_of_lt hqi] at hq2; exact hq2
      have := idxH_unique hn hq3 (by rw [hx] : xs[i]? = some (xs[i].1, xs[i].2))
      omega
    refine wpAny_dictSet_heap (knd := tkd prog w) (s := { s with heap := h', toks := tk' }) (by show A.in1.units < cLine; simp only [units_in1]; omega) hkey' hd' (fun h3 hd3 hs3 => ?_) (by rw [sizeLine_eq]; simp; omega)
    rw [storedH_new hnew] at hd3
    have e3 : xs.take i ++ [(xs[i].1, xs[i].2.1, xs[i].2.2)] = xs.take (i + 1) := by
      rw [List.take_succ, hx]; rfl
    rw [e3] at hd3
    refine wpAny_pure ⟨plainId_quiet plain_update_loop _, ih (i + 1) h3 _ _ (by omega) hlt (st'.1.at fun o e => hs3.extBut I o (Ne.symm hdI) e) (st'.2.at fun o e => hs3.extBut l o (Ne.symm hdl) e) hd3 fun b o h1 h2 e => hs3.extBut b o h1 (hk' b o (by simpa using h2) (hold b o h1 h2 e))⟩
theorem dict_of_pairs {h₀ : Heap} {L l : Addr} {m : Str → Option Value} {news : List (Addr × Obj)} {vs : List Value} {n : Nat} {xs : List (List Int × Addr × Value)} {Q : Value → Shared → Prop} (F : Fr h₀ L s.heap m) (N : News h₀ L s.heap news) (hbig : sysModules < h₀.objs.size)
    (hm : (l, listOf vs.toArray n) ∈ news) (hp : PairsIn news vs xs) (hn : (xs.map (·.1)).Nodup) (hh : A.handled = none) (hu : A.units + 10 < cLine) (hsz : xs.length ≤ 1000000)
    (h : ∀ d o h' tk', Fr h₀ L h' m → News h₀ L h' ((d, o) :: news) → (∀ p ∈ news, p.1 < d) → (d == sysModules) = false → TDict prog w o xs → Q (.ref d) { s with heap := h', toks := tk' }) :
    wpAny (model prog w) A (call (.type "dict") [.ref l]) Q E s := by
  have hl0 := (N _ hm).1
  refine callType_codes (Q₁ := fun obj s₁ => obj = .ref s.heap.objs.size ∧ s₁ = { s with heap := s.heap.push { cls := .type "dict", data := .dict #[] } }) PySem.F.kt_called_dict (PySem.F.kt_typeCall_dict_1 _) PySem.F.entry_dict_init (kt_code_dict_new _ ⟨rfl, rfl⟩) ?_
  rintro obj s₁ ⟨rfl, rfl⟩
  have hnew : (s.heap.push { cls := .type "dict", data := .dict #[] }).DictOfH (tkd prog w) s.heap.objs.size [] := Heap.DictOfH.new s.heap
  have up : ∀ b o, s.heap.get? b = some o → (s.heap.push { cls := .type "dict", data := .dict #[] }).get? b = some o := fun b o e => Heap.get?_push_of_some _ e
  have hT : ({ s with heap := s.heap.push { cls := .type "dict", data := .dict #[] } } : Shared).TypeIs (.ref s.heap.objs.size) "dict" := hnew.typeIs
  refine ⟨hT, PySem.F.args_dict_init_2 _ _, ?_⟩
  unfold Builtin.«dict.__init__»
  refine wpAny_bind ?_
  unfold Builtin.Dict.selfAndRest
  refine wpAny_bind (wpAny_notOrdered_dict hT ?_)
  show wpAny _ _ (pure (s.heap.objs.size, [Value.ref l])) _ _ _
  refine wpAny_pure ?_
  show wpAny _ _ (Builtin.Dict.updateFrom "dict.__init__" s.heap.objs.size (.ref l) [] .none) _ _ _
  unfold Builtin.Dict.updateFrom
  refine wpAny_bind (wpAny_typeOf (T := "list") ⟨_, up _ _ hl0, rfl⟩ ?_)
  rw [if_pos (by decide)]
  refine wpAny_bind (getAttrQ_miss (up _ _ hl0) hh fun h2 tk2 k2 => ?_)
  rw [if_pos (show (none : Option Value).isNone = true from rfl)]
  refine wpAny_bind (wpAny_rule (wpAny_bind ?_))
  have hd2 := k2 s.heap.objs.size _ (Heap.get?_push_size _ rfl)
  have hl2 := k2 l _ (up _ _ hl0)
  have hlL : h2.IsList l vs.toArray := ⟨_, hl2, rfl, n, rfl⟩
  have hdI : s.heap.objs.size ≠ h2.objs.size := Nat.ne_of_lt (Heap.lt_size hd2)
  have hlI : l ≠ h2.objs.size := Nat.ne_of_lt (Heap.lt_size hl2)
  have hdl : s.heap.objs.size ≠ l := Nat.ne_of_gt (Heap.lt_size hl0)
  have up2 : ∀ b o, h2.get? b = some o → (h2.push { cls := .type "list_iterator", data := .fields #[.ref l, .int 0 0] }).get? b = some o := fun b o e => Heap.get?_push_of_some _ e
  have up3 : ∀ b o, s.heap.get? b = some o → (h2.push { cls := .type "list_iterator", data := .fields #[.ref l, .int 0 0] }).get? b = some o := fun b o e => up2 b o (k2 b o (up b o e))
  have lt3 : ∀ b o, s.heap.get? b = some o → b ≠ s.heap.objs.size ∧ b ≠ h2.objs.size := fun b o e => ⟨Nat.ne_of_lt (Heap.lt_size e), Nat.ne_of_lt (Heap.lt_size (k2 b o (up b o e)))⟩
  have hkeyIn : ∀ (i : Nat) (v : Value) (x : List Int × Addr × Value), vs[i]? = some v → xs[i]? = some x → ∃ (p : Addr) (n : Nat), v = .ref p ∧ (h2.push { cls := .type "list_iterator", data := .fields #[.ref l, .int 0 0] }).get? p = some { cls := .type "tuple", data := .seq #[.ref x.2.1, x.2.2] n } ∧ p ≠ s.heap.objs.size ∧ p ≠ h2.objs.size ∧ IsTupleKey (intKind prog w) (h2.push { cls := .type "list_iterator", data := .fields #[.ref l, .int 0 0] }) x.1 x.2.1 ∧ x.2.1 ≠ s.heap.objs.size ∧ x.2.1 ≠ h2.objs.size := by
    intro i v x hv hx
    obtain ⟨p, pn, ev, hpm, hk⟩ := hp.get hv hx
    obtain ⟨ob, it, nn, h1, h2'⟩ := (hk.is N : (tkd prog w).is s.heap x.1 x.2.1)
    exact ⟨p, pn, ev, up3 _ _ (N _ hpm).1, (lt3 _ _ (N _ hpm).1).1, (lt3 _ _ (N _ hpm).1).2, ⟨ob, it, nn, up3 _ _ h1, h2'⟩, (lt3 _ _ h1).1, (lt3 _ _ h1).2⟩
  refine wpAny_pyIter_list hlL (wpAny_pure ⟨plainId_quiet plain_update_loop _, ?_⟩)
  refine update_loop (A := A.in1) (d := s.heap.objs.size) (l := l) (I := h2.objs.size) (vs := vs) (xs := xs) hh (by simp only [units_in1]; omega) hn hsz hp.length hdI hdl hlI _ ?_ hkeyIn ?_ _ 0 _ _ _ rfl (Nat.zero_le _) ⟨_, Heap.get?_push_size _ rfl, rfl, rfl⟩ (hlL.push _) ?_ (fun _ _ _ _ e => e)
  · intro y hy
    obtain ⟨i, hi⟩ := List.mem_iff_getElem?.mp hy
    have hil : i < vs.length := by rw [hp.length]; exact (List.getElem?_eq_some_iff.mp hi).1
    obtain ⟨p, pn, _, _, _, _, _, _, hz⟩ := hkeyIn i _ y (List.getElem?_eq_getElem hil) hi
    exact hz
  · intro h' tk hd' hold
    obtain ⟨o, es, ep, ho, hc, hdt, he, his, hnd⟩ := hd'
    have hks : ∀ b ob, s.heap.get? b = some ob → h'.get? b = some ob := fun b ob e => hold b ob (lt3 b ob e).1 (lt3 b ob e).2 (up3 b ob e)
    refine ⟨rfl, h _ o h' tk (F.keeps hks) ?_ (fun q hq => Heap.lt_size (N q hq).1) (F.notModules hbig) ⟨hc, es, ep, hdt, he, hnd⟩⟩
    intro q hq
    rcases List.mem_cons.mp hq with rfl | hq
    · refine ⟨ho, Nat.ne_of_gt F.ns.lt, ?_⟩
      cases e : h₀.get? s.heap.objs.size with
      | none => rfl
      | some o' => exact absurd (Heap.lt_size (F.keep _ _ e)) (Nat.lt_irrefl _)
    · exact ⟨hks _ _ (N q hq).1, (N q hq).2⟩
  · rw [List.take_zero]
    exact dictH_keep hnew (fun o e => up2 _ _ (k2 _ _ e)) (fun y hy => by simp at hy)
end
-- CI

-- C13
local macro_rules | `(tactic| walk_at "call ref") => `(tactic| (k_here; (with_reducible show wpAny _ _ (call (Value.ref 223) _) _ _ _); k_dflt (refine' lblocks_spec (by k_asm) (by k_asm) (by k_asm) (by k_asm) (by k_asm) (by first | exact rfl | assumption) (by ktr_room) (by ktr_units) (by first | assumption | exact FrameIn.mono (by assumption) (by lcg_sub)) (by assumption) (by omega) (by omega) (by assumption) ?_; k_whole); intro r' n' t1' t2' h' tk' F' N' l1'; (try k_lt l1'); (try k_fold)))

abbrev Ent := (Int × Int × Int) × (Int × Int)
def Ent.key (e : Ent) : List Int := [e.1.1, e.1.2.1, e.1.2.2]
/-- a dict's entries, told -/
def EntsIn (l : List (Addr × Obj)) : List (List Int × Addr × Value) → List Ent → Prop
  | [], [] => True
  | x :: xs, e :: es => (KeyIn l x.1 x.2.1 ∧ x.1 = Ent.key e ∧ DatIn l x.2.2 (.tuple [.int e.2.1, .int e.2.2])) ∧ EntsIn l xs es
  | _, _ => False
theorem EntsIn.mono {l l' : List (Addr × Obj)} (hs : ∀ p ∈ l, p ∈ l') : ∀ {xs : List (List Int × Addr × Value)} {es : List Ent}, EntsIn l xs es → EntsIn l' xs es
  | [], [], _ => trivial
  | _ :: _, _ :: _, h => ⟨⟨h.1.1.mono hs, h.1.2.1, h.1.2.2.mono hs⟩, EntsIn.mono hs h.2⟩
  | [], _ :: _, h => h.elim
  | _ :: _, [], h => h.elim
theorem EntsIn.append {l : List (Addr × Obj)} {x : List Int × Addr × Value} {e : Ent} : ∀ {xs : List (List Int × Addr × Value)} {es : List Ent}, EntsIn l xs es → (KeyIn l x.1 x.2.1 ∧ x.1 = Ent.key e ∧ DatIn l x.2.2 (.tuple [.int e.2.1, .int e.2.2])) → EntsIn l (xs ++ [x]) (es ++ [e])
  | [], [], _, hc => ⟨hc, trivial⟩
  | _ :: _, _ :: _, h, hc => ⟨h.1, EntsIn.append h.2 hc⟩
  | [], _ :: _, h, _ => h.elim
  | _ :: _, [], h, _ => h.elim
theorem EntsIn.keys {l : List (Addr × Obj)} : ∀ {xs : List (List Int × Addr × Value)} {es : List Ent}, EntsIn l xs es → xs.map (·.1) = es.map Ent.key
  | [], [], _ => rfl
  | x :: xs, e :: es, h => by
    show x.1 :: xs.map (·.1) = Ent.key e :: es.map Ent.key
    rw [h.1.2.1, EntsIn.keys h.2]
  | [], _ :: _, h => h.elim
  | _ :: _, [], h => h.elim
theorem EntsIn.length {l : List (Addr × Obj)} {xs : List (List Int × Addr × Value)} {es : List Ent} (h : EntsIn l xs es) : xs.length = es.length := by
  have := congrArg List.length h.keys
  simpa using this
theorem EntsIn.keysIn {l : List (Addr × Obj)} : ∀ {xs : List (List Int × Addr × Value)} {es : List Ent}, EntsIn l xs es → ∀ x ∈ xs, KeyIn l x.1 x.2.1
  | [], [], _, x, hx => nomatch hx
  | y :: ys, e :: es, h, x, hx => by
    rcases List.mem_cons.mp hx with rfl | hx
    · exact h.1.1
    · exact EntsIn.keysIn h.2 x hx
  | [], _ :: _, h, _, _ => h.elim
  | _ :: _, [], h, _, _ => h.elim
theorem PairsIn.mono {l l' : List (Addr × Obj)} (hs : ∀ p ∈ l, p ∈ l') : ∀ {vs : List Value} {xs : List (List Int × Addr × Value)}, PairsIn l vs xs → PairsIn l' vs xs
  | [], [], _ => trivial
  | _ :: _, _ :: _, ⟨⟨p, n, e, h1, h2⟩, h3⟩ => ⟨⟨p, n, e, hs _ h1, h2.mono hs⟩, PairsIn.mono hs h3⟩
  | [], _ :: _, h => h.elim
  | _ :: _, [], h => h.elim
theorem PairsIn.append {l : List (Addr × Obj)} {v : Value} {x : List Int × Addr × Value} : ∀ {vs : List Value} {xs : List (List Int × Addr × Value)}, PairsIn l vs xs → (∃ (p : Addr) (n : Nat), v = .ref p ∧ (p, ({ cls := .type "tuple", data := .seq #[.ref x.2.1, x.2.2] n } : Obj)) ∈ l ∧ KeyIn l x.1 x.2.1) → PairsIn l (vs ++ [v]) (xs ++ [x])
  | [], [], _, hc => ⟨hc, trivial⟩
  | _ :: _, _ :: _, h, hc => ⟨h.1, PairsIn.append h.2 hc⟩
  | [], _ :: _, h, _ => h.elim
  | _ :: _, [], h, _ => h.elim
/-- the blocks due where one component stands alone -/
def dueOne (p W H : Int) : List Ent := (List.range (W * H).toNat).map fun (i : Nat) => ((p, Int.fmod i W, Int.fdiv i W), ((i : Int), 0))
theorem fmod_fdiv_inj {a b W : Int} (h1 : Int.fmod a W = Int.fmod b W) (h2 : Int.fdiv a W = Int.fdiv b W) : a = b := by
  have e1 := Int.mul_fdiv_add_fmod a W
  have e2 := Int.mul_fdiv_add_fmod b W
  rw [h1, h2] at e1
  omega
theorem dueOne_nodup (p W H : Int) : ((dueOne p W H).map Ent.key).Nodup := by
  unfold dueOne
  rw [List.map_map]
  refine List.pairwise_map.mpr (List.nodup_range.imp fun {a b} h e => h ?_)
  simp only [Function.comp, Ent.key, List.cons.injEq, and_true, true_and] at e
  have := fmod_fdiv_inj e.1 e.2
  omega
theorem dueOne_get {p W H : Int} {i : Nat} (h : i < (W * H).toNat) : (dueOne p W H)[i]? = some ((p, Int.fmod i W, Int.fdiv i W), ((i : Int), 0)) := by
  unfold dueOne
  rw [List.getElem?_map, List.getElem?_range h]
  rfl
/-- a due dict in the ledger -/
def DueIn (w : World) (l : List (Addr × Obj)) (d : Addr) (es : List Ent) : Prop :=
  ∃ (o : Obj) (xs : List (List Int × Addr × Value)), (d, o) ∈ l ∧ TDict PySem.Challenge.rw_pf0231_01.row.prog w o xs ∧ EntsIn l xs es ∧ (d == sysModules) = false
 local macro_rules | `(tactic| walk_at "call type:dict") => `(tactic| (k_here; (with_reducible show wpAny _ _ (call (Value.type "dict") [Value.ref _]) _ _ _); k_dflt (refine' dict_of_pairs ?k1 ?k2 ?k3 ?k4 ?k5 ?k6 ?k7 ?k8 ?k9 ?_; (case k1 => k_asm); (case k2 => k_asm); (case k3 => exact modules_low (Top.nolimit (by k_asm))); (case k4 => k_mem); (case k5 => assumption); (case k6 => assumption); (case k7 => exact rfl); (case k8 => ktr_units); (case k9 => omega); k_whole); intro d' o' h' tk' F' N' l1' lo' td'; (try k_lt l1'); (try k_sweep)))
section
section
local macro_rules | `(tactic| walk_at "CompSrc") => `(tactic| (k_here; refine stop_here ?_))
section
variable {w : World} {mean : ExcName → Option Value} {mg mb : Str → Option Value} {dp un : Nat} {gd : Option (List Code)} {cn : Str} {cs : Scope} {a : Addr} {ccd : Value} {cl : List (Str × Addr)} {outer : List Env} {A₀ : Around} {base h₀ : Heap} {L : Addr} {m : Str → Option Value} {s : Shared} {Q E : Value → Shared → Prop} {news : List (Addr × Obj)}

set_option maxHeartbeats 4000000 in
theorem due_one_spec {fr lo : Addr} {g : Geo} {p : Int} {vs : List Value} {ln : Nat} (B : Below A₀ base outer h₀) (F : Fr h₀ L s.heap m) (X : (hd.heap_1 w.params).In h₀) (N : News h₀ L s.heap news) (T : Top lview (looseW lview []) mean mg mb h₀) (hk : cs.kind = .function)
    (hdp : dp + 10 < recursionLimit) (hun : un + 80 < cLine)
    (hf : FrameIn w news fr g) (hg : g.Ok) (hl : (lo, listOf vs.toArray ln) ∈ news) (hi : IntsAre vs [p]) (hp : PlacesOk g.comps.length [p])
    (hret : ∀ r d t nt new h' tk', Fr h₀ L h' m → News h₀ L h' (new ++ news) → Apart new news → (r, ({ cls := .type "tuple", data := .seq #[.int (bW g (g.at p) * bH g (g.at p)) t, .ref d] nt } : Obj)) ∈ new → DueIn w new d (dueOne p (bW g (g.at p)) (bH g (g.at p))) → Q (.ref r) { s with heap := h', toks := tk' }) :
    wpAny (model PySem.Challenge.rw_pf0231_01.row.prog w) (ktrTop dp un gd cn cs L a ccd cl outer) (call (.ref 228) [.ref fr, .ref lo]) Q E s := by
  w_on
  have hz : PySem.Challenge.rw_pf0231_01 = PySem.Challenge.rw_pf0231_01 ∧ hd.heap_1 = hd.heap_1 := by
    k_fill
    exact ⟨rfl, rfl⟩
  clear hz
  obtain ⟨tp, hvp⟩ := hi.get 0 p rfl
  have hvp' : vs[(0 : Int).toNat]? = some (.int p tp) := hvp
  have hvl : (vs.length : Int) = 1 := by rw [hi.length]; rfl
  have hlow := hp.low p (by simp)
  have hl3 := hg.len
  have hpc := Geo.at_get hp (p := p) (by simp)
  have hbW := bW_bounds hg (List.mem_of_getElem? hpc)
  have hbH := bH_bounds hg (List.mem_of_getElem? hpc)
  have hbb := mul_bounds hbW hbH
  refine wpAny_call ?_
  k_dflt (refine' code_defC ?k1 ?k2 ?k3 ?k4 ?k5 ?kA ?kF ?kK ?k6 ?k7 ?k8 ?k9 ?kB ?kD ?_ ?c2 ?c3 ?c4; (case kA => exact rfl); (case kF => exact rfl); (case kK => assumption); (case k1 => k_asm); (case k2 => k_asm); (case k3 => k_asm); (case k4 => k_asm); (case k5 => k_asm); (case k6 => k_is); (case k7 => k_is); (case k8 => ktr_room); (case k9 => exact BindsTo.of_eq rfl); (case kB => exact rfl); (case kD => decide +kernel); (case c2 => exact rfl); (case c3 => exact rfl); (case c4 => exact rfl); k_whole; intro g' L' h' tk' cells' FG' F' N' Y' B' X' T' l1; (try k_lt l1); k_cells Y'; (try simp only [List.cons_append, List.nil_append] at N'); (try dsimp only); (try k_fold))
  have la1 : ∀ p ∈ news, p.1 ≠ L' + 1 := fun p hp => Nat.ne_of_lt (Nat.lt_succ_of_lt (l1 p hp))
  have la2 : ∀ p ∈ news, p.1 ≠ L' + 1 + 1 := fun p hp => Nat.ne_of_lt (Nat.lt_succ_of_lt (Nat.lt_succ_of_lt (l1 p hp)))
  k_steps
  rename_i o2 _ d2 _ rb rn rt1 rt2 _ _ lr _ _ o1 d1 _ _ _ _ _ tk1 rt ru rv hR hF hN hK
  unfold Stop
  refine LCg.CompSrc.range (n := (bW g (g.at p) * bH g (g.at p)).toNat) rfl hF hN hR (small_one (by omega) (by omega) (by omega) (by omega)) (rangeSize_toNat (by omega)) (by rw [sizeLine_eq]; omega) (fun g0 => ?_)
  refine compRest_inv (bW g (g.at p) * bH g (g.at p)).toNat (fun i ys nx => ∃ new xs, nx = new ++ ((rb, listOf #[.int (bW g (g.at p)) rt1, .int (bH g (g.at p)) rt2] rn) :: (L' + 1 + 1, o1) :: (L' + 1, o2) :: news) ∧ Apart new ((rb, listOf #[.int (bW g (g.at p)) rt1, .int (bH g (g.at p)) rt2] rn) :: (L' + 1 + 1, o1) :: (L' + 1, o2) :: news) ∧ PairsIn new ys xs ∧ EntsIn new xs ((dueOne p (bW g (g.at p)) (bH g (g.at p))).take i)) ?step ?fin _ 0 [] _ rfl ⟨[], [], rfl, Apart.nil, trivial, trivial⟩
  case step =>
    intro i ys nx v I oI C oC D m₂ h tk E' hi1 hinv hv hC hx F9 N9 off ne
    obtain ⟨new, xs, hnx, hap, hpi, hei⟩ := hinv
    obtain ⟨t, rfl⟩ := hv
    have m1 : (L' + 1 + 1, o1) ∈ nx := by rw [hnx]; simp
    have m2 : (L' + 1, o2) ∈ nx := by rw [hnx]; simp
    have m3 : (lo, listOf vs.toArray ln) ∈ nx := by rw [hnx]; simp [hl]
    simp only [Int.zero_add] at hx ⊢
    k_steps
    rename_i a1 _ q1 a2 _ q2 a3 _ FF NN q3
    obtain ⟨p3, p2, p1, f3, f2, f1, NN2⟩ : ∃ p3 p2 p1, p3 = _ ∧ p2 = _ ∧ p1 = _ ∧ News _ _ _ ((a3, p3) :: (a2, p2) :: (a1, p1) :: (I, oI) :: (C, oC) :: (D, LCg.lst ys) :: nx) := ⟨_, _, _, rfl, rfl, rfl, NN⟩
    have htk : (dueOne p (bW g (g.at p)) (bH g (g.at p))).take (i + 1) = (dueOne p (bW g (g.at p)) (bH g (g.at p))).take i ++ [((p, Int.fmod i (bW g (g.at p)), Int.fdiv i (bW g (g.at p))), ((i : Int), 0))] := by
      rw [List.take_succ, dueOne_get hi1]
      rfl
    have hs3 : ∀ q ∈ new, q ∈ (a3, p3) :: (a2, p2) :: (a1, p1) :: new := fun q hq => List.mem_cons_of_mem _ (List.mem_cons_of_mem _ (List.mem_cons_of_mem _ hq))
    have hkey : KeyIn ((a3, p3) :: (a2, p2) :: (a1, p1) :: new) [p, Int.fmod i (bW g (g.at p)), Int.fdiv i (bW g (g.at p))] a1 := ⟨_, _, by rw [f1]; exact List.mem_cons_of_mem _ (List.mem_cons_of_mem _ List.mem_cons_self), .cons _ _ (.cons _ _ (.cons _ _ .nil))⟩
    refine LCg.CompEnd.intro FF NN2 ((a3, p3) :: (a2, p2) :: (a1, p1) :: nx) ?sub ⟨⟨by k_ne, by k_ne, by k_ne⟩, ⟨by k_ne, by k_ne, by k_ne⟩, ⟨by k_ne, by k_ne, by k_ne⟩, off⟩ trivial ⟨(a3, p3) :: (a2, p2) :: (a1, p1) :: new, xs ++ [([p, Int.fmod i (bW g (g.at p)), Int.fdiv i (bW g (g.at p))], a1, .ref a2)], by rw [hnx]; rfl, ?ap, (hpi.mono hs3).append ⟨a3, _, rfl, by rw [f3]; exact List.mem_cons_self, hkey⟩, ?ee⟩
    case sub =>
      intro q hq
      simp only [List.mem_cons] at hq ⊢
      rcases hq with hq | hq | hq | hq | hq | hq | hq <;> simp [hq]
    case ap =>
      have hbase : ∀ q ∈ (rb, listOf #[.int (bW g (g.at p)) rt1, .int (bH g (g.at p)) rt2] rn) :: (L' + 1 + 1, o1) :: (L' + 1, o2) :: news, q ∈ nx := fun q hq => by rw [hnx]; exact List.mem_append.mpr (.inr hq)
      exact Apart.cons (fun q hq => Nat.ne_of_lt (allLt_out q3.2.2.2.2.2 q (hbase q hq))) (Apart.cons (fun q hq => Nat.ne_of_lt (allLt_out q2.2.2.2.2 q (hbase q hq))) (Apart.cons (fun q hq => Nat.ne_of_lt (allLt_out q1.2.2.2 q (hbase q hq))) hap))
    case ee =>
      rw [htk]
      refine (hei.mono hs3).append ⟨hkey, rfl, ?_⟩
      exact .tuple (vs := [_, _]) (by rw [f2]; exact List.mem_cons_of_mem _ List.mem_cons_self) (.cons (.int _ _) (.cons (.int _ _) .nil))
  case fin =>
    intro ys nx hinv D h tk FF NN oD
    obtain ⟨new, xs, hnx, hap, hpi, hei⟩ := hinv
    rw [List.take_of_length_le (by unfold dueOne; simp)] at hei
    have hnd : (xs.map (·.1)).Nodup := by rw [hei.keys]; exact dueOne_nodup _ _ _
    have hxl : xs.length ≤ 100000 := by
      rw [hei.length]
      unfold dueOne
      simp
      omega
    have hpi2 : PairsIn ((D, LCg.lst ys) :: nx) ys xs := hpi.mono fun q hq => by rw [hnx]; simp [hq]
    k_steps
    rename_i dd oo _ _ lo2 td l1 rr _ _ _ l2 kF kN _ _
    obtain ⟨po, fo, kN2⟩ : ∃ po, po = _ ∧ News _ _ _ ((rr, po) :: (dd, oo) :: (D, LCg.lst ys) :: nx) := ⟨_, rfl, kN⟩
    refine hret rr dd _ 0 ((rr, po) :: (dd, oo) :: new) _ _ kF (fun q hq => kN2 q ?sub) ?ap (by rw [fo]; exact List.mem_cons_self) ⟨oo, xs, List.mem_cons_of_mem _ List.mem_cons_self, td, hei.mono fun q hq => List.mem_cons_of_mem _ (List.mem_cons_of_mem _ hq), lo2⟩
    case sub =>
      rw [hnx]
      simp only [List.mem_cons, List.mem_append, List.cons_append] at hq ⊢
      rcases hq with hq | hq | hq | hq <;> simp [hq]
    case ap =>
      have hbase : ∀ q ∈ news, q ∈ nx := fun q hq => by rw [hnx]; simp [hq]
      refine Apart.cons (fun q hq => Nat.ne_of_lt (allLt_out l2.2.2 q (hbase q hq))) (Apart.cons (fun q hq => Nat.ne_of_lt (allLt_out l1.2 q (hbase q hq))) (fun q hq r hr => hap q hq r ?_))
      simp [hr]
end
end
end
-- P1
/-- the blocks due of one row of one component -/
def dueRow (p : Int) (c : Cmp) (side ahead : Int) (y : Nat) : List Ent := (List.range (side * c.across).toNat).map fun (x : Nat) =>
  ((p, (x : Int), (y : Int)), (Int.fdiv (y : Int) c.down * side + Int.fdiv (x : Int) c.across, ahead + Int.fmod (y : Int) c.down * c.across + Int.fmod (x : Int) c.across))
def dueComp (g : Geo) (p ahead : Int) : List Ent := (List.range (g.rows * (g.at p).down).toNat).flatMap (dueRow p (g.at p) g.side ahead)
/-- the blocks told ahead of the j-th component of the scan -/
def aheadOf (g : Geo) (ps : List Int) (j : Nat) : Int := ((ps.take j).map fun p => (g.at p).across * (g.at p).down).sum
def dueMany (g : Geo) (ps : List Int) (j : Nat) : List Ent := (List.range j).flatMap fun i => dueComp g (ps.getD i 0) (aheadOf g ps i)
/-- what _law_due lists -/
def dueEnts (g : Geo) (ps : List Int) : List Ent := if ps.length = 1 then dueOne (ps.getD 0 0) (bW g (g.at (ps.getD 0 0))) (bH g (g.at (ps.getD 0 0))) else dueMany g ps ps.length
-- P2
def lensOf (g : Geo) (ps : List Int) (n : Nat) : List Int := (List.range n).map fun (i : Nat) => ((unitNo g ps (i : Int)).length : Int)
theorem flat_get {α : Type} {f : Nat → List α} : ∀ {n s : Nat} {b : α}, ((List.range n).flatMap f)[s]? = some b → ∃ j r, j < n ∧ (f j)[r]? = some b ∧ s = ((List.range j).flatMap f).length + r
  | 0, s, b, h => by simp at h
  | n + 1, s, b, h => by
    rw [List.range_succ, List.flatMap_append] at h
    by_cases hs : s < ((List.range n).flatMap f).length
    · rw [List.getElem?_append_left hs] at h
      obtain ⟨j, r, hj, hr, e⟩ := flat_get h
      exact ⟨j, r, by omega, hr, e⟩
    · rw [List.getElem?_append_right (by omega)] at h
      simp only [List.flatMap_cons, List.flatMap_nil, List.append_nil] at h
      exact ⟨n, _, by omega, h, by omega⟩
theorem sum_le_of {l : List Nat} {b : Nat} (h : ∀ x ∈ l, x ≤ b) : l.sum ≤ l.length * b := by
  induction l with
  | nil => simp
  | cons a r ih =>
    have h1 := h a (by simp)
    have h2 := ih fun x hx => h x (by simp [hx])
    simp only [List.sum_cons, List.length_cons, Nat.add_mul, Nat.one_mul]
    omega
theorem blkR_len {i : Nat} {p : Int} {c : Cmp} {x y : Int} {d : Nat} : (blkR i p c x y d).length = c.across.toNat := by simp [blkR]
theorem flat_len {α : Type} {f : Nat → List α} {k : Nat} (h : ∀ d, (f d).length = k) : ∀ n, ((List.range n).flatMap f).length = n * k
  | 0 => by simp
  | n + 1 => by
    rw [List.range_succ, List.flatMap_append, List.length_append, flat_len h n]
    simp only [List.flatMap_cons, List.flatMap_nil, List.append_nil]
    rw [h n, Nat.add_mul, Nat.one_mul]
theorem blkC_len {g : Geo} {ps : List Int} {x y : Int} {i : Nat} : (blkC g ps x y i).length = (g.at (ps.getD i 0)).down.toNat * (g.at (ps.getD i 0)).across.toNat := by
  unfold blkC
  exact flat_len (fun d => blkR_len) _
theorem unitBs_len_le {g : Geo} {ps : List Int} (hg : g.Ok) (hps : PlacesOk g.comps.length ps) (x y : Int) : (unitBs g ps x y).length ≤ 48 := by
  unfold unitBs
  split
  · simp
  · rw [List.length_flatMap]
    have hl := hps.len
    have hc := hg.len
    have h1 : ((List.range ps.length).map fun i => (blkC g ps x y i).length).sum ≤ ((List.range ps.length).map fun i => (blkC g ps x y i).length).length * 16 := by
      refine sum_le_of fun z hz => ?_
      obtain ⟨i, hi, rfl⟩ := List.mem_map.mp hz
      have hi := List.mem_range.mp hi
      have hm : ps.getD i 0 ∈ ps := by rw [List.getD_eq_getElem?_getD, List.getElem?_eq_getElem hi]; exact List.getElem_mem hi
      have ha := hg.across _ (Geo.at_mem hps hm)
      have hd := hg.down _ (Geo.at_mem hps hm)
      rw [blkC_len]
      exact Nat.le_trans (Nat.mul_le_mul (by omega : _ ≤ 4) (by omega : _ ≤ 4)) (by decide)
    rw [List.length_map, List.length_range] at h1
    omega
theorem getD_mem {ps : List Int} {i : Nat} (hi : i < ps.length) : ps.getD i 0 ∈ ps := by
  rw [List.getD_eq_getElem?_getD, List.getElem?_eq_getElem hi]; exact List.getElem_mem hi
theorem getD_get {ps : List Int} {i : Nat} (hi : i < ps.length) : ps[i]? = some (ps.getD i 0) := by
  rw [List.getD_eq_getElem?_getD, List.getElem?_eq_getElem hi]; rfl
theorem ahead_succ {g : Geo} {ps : List Int} {j : Nat} (hj : j < ps.length) : aheadOf g ps (j + 1) = aheadOf g ps j + (g.at (ps.getD j 0)).across * (g.at (ps.getD j 0)).down := by
  unfold aheadOf
  rw [List.take_add_one, getD_get hj, List.map_append, List.sum_append]
  simp
theorem ahead_is {g : Geo} {ps : List Int} (hg : g.Ok) (hps : PlacesOk g.comps.length ps) {x y : Int} : ∀ {j : Nat}, j ≤ ps.length → (((List.range j).flatMap (blkC g ps x y)).length : Int) = aheadOf g ps j
  | 0, _ => by simp [aheadOf]
  | j + 1, hj => by
    have hm := Geo.at_mem hps (getD_mem (i := j) hj)
    have ha := hg.across _ hm
    have hd := hg.down _ hm
    rw [List.range_succ, List.flatMap_append, List.length_append, ahead_succ hj]
    simp only [List.flatMap_cons, List.flatMap_nil, List.append_nil]
    rw [blkC_len, Int.natCast_add, ahead_is hg hps (Nat.le_of_lt hj), Int.natCast_mul, Int.toNat_of_nonneg (by omega), Int.toNat_of_nonneg (by omega), Int.mul_comm]
theorem fdm {a b d : Int} (hd : 0 ≤ d ∧ d < b) : Int.fdiv (a * b + d) b = a ∧ Int.fmod (a * b + d) b = d := by
  rw [Int.fdiv_eq_ediv_of_nonneg _ (by omega), Int.fmod_eq_emod_of_nonneg _ (by omega)]
  constructor
  · rw [Int.add_comm, Int.add_mul_ediv_right _ _ (by omega), Int.ediv_eq_zero_of_lt hd.1 hd.2, Int.zero_add]
  · rw [Int.add_comm, Int.add_mul_emod_self_right]; exact Int.emod_eq_of_lt hd.1 hd.2
theorem lt_mul {a n b d : Int} (h0 : 0 ≤ a) (ha : a < n) (hd : 0 ≤ d ∧ d < b) : 0 ≤ a * b + d ∧ a * b + d < n * b := by
  have h1 : 0 ≤ a * b := Int.mul_nonneg h0 (by omega)
  have h2 : (a + 1) * b ≤ n * b := Int.mul_le_mul_of_nonneg_right (by omega) (by omega)
  rw [Int.add_mul, Int.one_mul] at h2
  omega
/-- each block of a unit is due just there -/
theorem due_at {g : Geo} {ps : List Int} (hg : g.Ok) (hps : PlacesOk g.comps.length ps) {i s : Nat} {b : Blk} (hi : (i : Int) < uA g ps * uD g ps) (hb : (unitNo g ps (i : Int))[s]? = some b) :
    (∃ (k : Nat), (dueEnts g ps)[k]? = some ((b.2.1, b.2.2.1, b.2.2.2), ((i : Int), (s : Int)))) ∧ 0 ≤ b.1 ∧ b.1 < (ps.length : Int) ∧ ps[b.1.toNat]? = some b.2.1 := by
  unfold unitNo unitBs at hb
  unfold dueEnts
  by_cases hal : ps.length = 1
  · rw [if_pos hal] at hb ⊢
    have eA : uA g ps = bW g (g.at (ps.getD 0 0)) := if_pos hal
    have eD : uD g ps = bH g (g.at (ps.getD 0 0)) := if_pos hal
    rw [eA, eD] at hi
    rw [eA] at hb
    cases s with
    | succ s => simp at hb
    | zero =>
      simp only [List.getElem?_cons_zero, Option.some.injEq] at hb
      subst hb
      refine ⟨⟨i, dueOne_get (by omega)⟩, Int.le_refl _, by omega, ?_⟩
      simpa using getD_get (ps := ps) (i := 0) (by omega)
  · rw [if_neg hal] at hb ⊢
    have eA : uA g ps = g.side := if_neg hal
    have eD : uD g ps = g.rows := if_neg hal
    rw [eA, eD] at hi
    rw [eA] at hb
    have hsd := side_bounds hg
    have hrw := rows_bounds hg
    obtain ⟨j, r, hj, hr, es⟩ := flat_get hb
    have hm := Geo.at_mem hps (getD_mem (i := j) hj)
    have ha := hg.across _ hm
    have hd := hg.down _ hm
    have eah := ahead_is hg hps (x := Int.fmod (i : Int) g.side) (y := Int.fdiv (i : Int) g.side) (Nat.le_of_lt hj)
    generalize hX : Int.fmod (i : Int) g.side = X at hr eah es
    generalize hY : Int.fdiv (i : Int) g.side = Y at hr eah es
    unfold blkC at hr
    obtain ⟨dd, aa, hdd, har, er⟩ := flat_get hr
    rw [flat_len (fun d => blkR_len)] at er
    unfold blkR at har
    rw [List.getElem?_map] at har
    have haa : aa < (g.at (ps.getD j 0)).across.toNat := by
      rcases Nat.lt_or_ge aa (g.at (ps.getD j 0)).across.toNat with q | q
      · exact q
      · rw [List.getElem?_eq_none (by simpa using q)] at har
        cases har
    rw [List.getElem?_range haa] at har
    have hbb : blkA j (ps.getD j 0) (g.at (ps.getD j 0)) X Y dd aa = b := Option.some.inj har
    subst hbb
    have hXb : 0 ≤ X ∧ X < g.side := by
      rw [← hX]
      exact ⟨Int.fmod_nonneg_of_pos _ (by omega), Int.fmod_lt_of_pos _ (by omega)⟩
    have hYb : 0 ≤ Y ∧ Y < g.rows := by
      rw [← hY, Int.fdiv_eq_ediv_of_nonneg _ (by omega)]
      exact ⟨Int.ediv_nonneg (by omega) (by omega), Int.ediv_lt_of_lt_mul (by omega) (by rw [Int.mul_comm]; exact hi)⟩
    have hi2 : (i : Int) = g.side * Y + X := by
      have := Int.mul_fdiv_add_fmod (i : Int) g.side
      rw [hX, hY] at this
      omega
    generalize hc : g.at (ps.getD j 0) = c at ha hd hdd haa er ⊢
    have hx := lt_mul (b := c.across) (d := (aa : Int)) hXb.1 hXb.2 (by omega)
    have hy := lt_mul (b := c.down) (d := (dd : Int)) hYb.1 hYb.2 (by omega)
    have fx := fdm (a := X) (b := c.across) (d := (aa : Int)) (by omega)
    have fy := fdm (a := Y) (b := c.down) (d := (dd : Int)) (by omega)
    refine ⟨List.mem_iff_getElem?.mp ?_, ?_, ?_, ?_⟩
    · refine List.mem_flatMap.mpr ⟨j, List.mem_range.mpr hj, List.mem_flatMap.mpr ⟨(Y * c.down + (dd : Int)).toNat, List.mem_range.mpr (by rw [hc]; omega), List.mem_map.mpr ⟨(X * c.across + (aa : Int)).toNat, List.mem_range.mpr (by rw [hc]; omega), ?_⟩⟩⟩
      rw [hc, Int.toNat_of_nonneg hx.1, Int.toNat_of_nonneg hy.1, fx.1, fx.2, fy.1, fy.2]
      have es2 : (s : Int) = aheadOf g ps j + (dd : Int) * c.across + (aa : Int) := by
        rw [es, Int.natCast_add, eah, er, Int.natCast_add, Int.natCast_mul, Int.toNat_of_nonneg (by omega), Int.add_assoc]
      rw [es2, hi2, Int.mul_comm g.side Y]
      rfl
    · show 0 ≤ (j : Int); omega
    · show (j : Int) < _; omega
    · show ps[((j : Int)).toNat]? = some (ps.getD j 0)
      rw [Int.toNat_natCast]
      exact getD_get hj
theorem dueRow_len {p : Int} {c : Cmp} {side ahead : Int} {y : Nat} : (dueRow p c side ahead y).length = (side * c.across).toNat := by simp [dueRow]
theorem dueComp_len {g : Geo} {p ahead : Int} : (dueComp g p ahead).length = (g.rows * (g.at p).down).toNat * (g.side * (g.at p).across).toNat := flat_len (fun d => dueRow_len) _
theorem dueMany_len {g : Geo} {ps : List Int} (hg : g.Ok) (hps : PlacesOk g.comps.length ps) : ∀ {j : Nat}, j ≤ ps.length → ((dueMany g ps j).length : Int) = g.side * g.rows * aheadOf g ps j
  | 0, _ => by simp [dueMany, aheadOf]
  | j + 1, hj => by
    have hm := Geo.at_mem hps (getD_mem (i := j) hj)
    have ha := hg.across _ hm
    have hd := hg.down _ hm
    have hsd := side_bounds hg
    have hrw := rows_bounds hg
    have ih := dueMany_len hg hps (Nat.le_of_lt hj)
    have e : dueMany g ps (j + 1) = dueMany g ps j ++ dueComp g (ps.getD j 0) (aheadOf g ps j) := by
      unfold dueMany
      rw [List.range_succ, List.flatMap_append]
      simp
    have h1 := (mul_bounds hrw hd).1
    have h2 := (mul_bounds hsd ha).1
    rw [e, List.length_append, Int.natCast_add, ih, ahead_succ hj, dueComp_len, Int.natCast_mul, Int.toNat_of_nonneg (by omega), Int.toNat_of_nonneg (by omega), Int.mul_add]
    congr 1
    rw [Int.mul_comm (g.rows * _), Int.mul_assoc, Int.mul_assoc, Int.mul_left_comm (g.at _).across, ← Int.mul_assoc]
theorem units_len {g : Geo} {ps : List Int} (hg : g.Ok) (hps : PlacesOk g.comps.length ps) (hal : ¬ ps.length = 1) (i : Int) : ((unitNo g ps i).length : Int) = aheadOf g ps ps.length := by
  unfold unitNo unitBs
  rw [if_neg hal]
  exact ahead_is hg hps (Nat.le_refl _)
theorem sum_const {α : Type} {f : α → Int} {c : Int} : ∀ {l : List α}, (∀ x ∈ l, f x = c) → (l.map f).sum = (l.length : Int) * c
  | [], _ => by simp
  | x :: l, h => by
    rw [List.map_cons, List.sum_cons, h x (by simp), sum_const fun y hy => h y (by simp [hy]), List.length_cons, Int.natCast_add, Int.add_mul]
    omega
theorem due_len {g : Geo} {ps : List Int} (hg : g.Ok) (hps : PlacesOk g.comps.length ps) {Nn : Nat} (hN : (Nn : Int) = uA g ps * uD g ps) : (lensOf g ps Nn).sum = ((dueEnts g ps).length : Int) := by
  unfold lensOf dueEnts
  by_cases hal : ps.length = 1
  · rw [if_pos hal]
    have eA : uA g ps = bW g (g.at (ps.getD 0 0)) := if_pos hal
    have eD : uD g ps = bH g (g.at (ps.getD 0 0)) := if_pos hal
    rw [eA, eD] at hN
    rw [sum_const (c := 1) fun i _ => by unfold unitNo unitBs; rw [if_pos hal]; rfl]
    unfold dueOne
    rw [List.length_map, List.length_range, List.length_range]
    omega
  · rw [if_neg hal]
    have eA : uA g ps = g.side := if_neg hal
    have eD : uD g ps = g.rows := if_neg hal
    rw [eA, eD] at hN
    rw [sum_const (c := aheadOf g ps ps.length) fun i _ => units_len hg hps hal _, dueMany_len hg hps (Nat.le_refl _), List.length_range, hN]
theorem due_len_le {g : Geo} {ps : List Int} (hg : g.Ok) (hps : PlacesOk g.comps.length ps) : (dueEnts g ps).length ≤ 1000000 := by
  have hA := uA_bounds hg hps
  have hD := uD_bounds hg hps
  unfold dueEnts
  by_cases hal : ps.length = 1
  · rw [if_pos hal]
    have eA : uA g ps = bW g (g.at (ps.getD 0 0)) := if_pos hal
    have eD : uD g ps = bH g (g.at (ps.getD 0 0)) := if_pos hal
    rw [eA] at hA
    rw [eD] at hD
    have hbb := mul_bounds hA hD
    unfold dueOne
    rw [List.length_map, List.length_range]
    omega
  · rw [if_neg hal]
    have hl := dueMany_len hg hps (Nat.le_refl ps.length)
    have hu := units_len hg hps hal 0
    have h48 : (unitNo g ps 0).length ≤ 48 := unitBs_len_le hg hps _ _
    have hbb := mul_bounds (side_bounds hg) (rows_bounds hg)
    have h3 : g.side * g.rows * aheadOf g ps ps.length ≤ 64 * 64 * 48 := Int.mul_le_mul hbb.2 (by omega) (by omega) (by omega)
    omega
-- S0
theorem keys_mono {l l' : List (Addr × Obj)} {xs : List (List Int × Addr × Value)} (h : ∀ x ∈ xs, KeyIn l x.1 x.2.1) (hs : ∀ p ∈ l, p ∈ l') : ∀ x ∈ xs, KeyIn l' x.1 x.2.1 := fun x hx => (h x hx).mono hs
-- C14
local macro_rules | `(tactic| walk_at "call builtin:len") => `(tactic| (k_here; (with_reducible show wpAny _ _ (call (Value.builtin "len") [Value.ref _]) _ _ _); k_dflt (refine' len_in (k := _) (by k_asm) (by k_mem) (by assumption) (by omega) ?_; k_whole)))
local macro_rules | `(tactic| walk_at "exec For Name Name cons nil") => `(tactic| (k_here; (rename Fr _ _ _ _ => lF'); (with_unfolding_all refine' For_mine lF' (by exact rfl) (by exact rfl) ?_; k_whole)))
local macro_rules | `(tactic| walk_at "setItem ref ref") => `(tactic| (k_here; (with_reducible show wpAny _ _ (setItem (Value.ref _) (Value.ref _) _) _ _ _); k_dflt (refine' put_in (k := [_, _, _]) (by k_asm) (by k_asm) (by k_updF) (by assumption) (by exact ⟨[_, _, _], _, by k_mem, .cons _ _ (.cons _ _ (.cons _ _ .nil))⟩) (by exact keys_mono (by assumption) (by lcg_sub)) (by assumption) (by ktr_units) (by assumption) ?_; k_whole); intro h' o' tk' F' N' td'))

/-- one block due -/
def dueCell (p : Int) (c : Cmp) (side ahead : Int) (y x : Nat) : Ent := ((p, (x : Int), (y : Int)), (Int.fdiv (y : Int) c.down * side + Int.fdiv (x : Int) c.across, ahead + Int.fmod (y : Int) c.down * c.across + Int.fmod (x : Int) c.across))
theorem key_new {l : List (Addr × Obj)} {xs : List (List Int × Addr × Value)} {es : List Ent} {k : List Int} (h : EntsIn l xs es) (hk : k ∉ es.map Ent.key) : atKey xs k = none :=
  atKey_none_of_get fun j p e => hk (h.keys ▸ List.mem_map.mpr ⟨_, List.mem_of_getElem? e, rfl⟩)
theorem due_fresh {g : Geo} {ps : List Int} {i : Nat} {k : Int} {c : Cmp} {side a : Int} {j kx : Nat} (hn : ps.Nodup) (hik : ps[i]? = some k) :
    [k, (kx : Int), (j : Int)] ∉ ((dueMany g ps i ++ (List.range j).flatMap (dueRow k c side a)) ++ (List.range kx).map (dueCell k c side a j)).map Ent.key := by
  intro h
  obtain ⟨e, he, ek⟩ := List.mem_map.mp h
  rcases List.mem_append.mp he with he | he
  · rcases List.mem_append.mp he with he | he
    · obtain ⟨i', hi', he⟩ := List.mem_flatMap.mp he
      obtain ⟨y', hy', he⟩ := List.mem_flatMap.mp he
      obtain ⟨x', hx', rfl⟩ := List.mem_map.mp he
      have hi'' := List.mem_range.mp hi'
      simp only [Ent.key, List.cons.injEq, and_true] at ek
      have hil : i < ps.length := (List.getElem?_eq_some_iff.mp hik).1
      have e1 : ps[i']? = some k := by rw [getD_get (by omega), ek.1]
      have e2 : i' = i := by
        obtain ⟨b1, c1⟩ := List.getElem?_eq_some_iff.mp e1
        obtain ⟨b2, c2⟩ := List.getElem?_eq_some_iff.mp hik
        exact absurd (c1.trans c2.symm) (List.pairwise_iff_getElem.mp hn i' i b1 b2 hi'')
      omega
    · obtain ⟨y', hy', he⟩ := List.mem_flatMap.mp he
      obtain ⟨x', hx', rfl⟩ := List.mem_map.mp he
      have := List.mem_range.mp hy'
      simp only [Ent.key, List.cons.injEq, and_true] at ek
      omega
  · obtain ⟨x', hx', rfl⟩ := List.mem_map.mp he
    have := List.mem_range.mp hx'
    simp only [dueCell, Ent.key, List.cons.injEq, and_true] at ek
    omega
/-- what the loops of _law_due change -/
structure DS where
  o : Obj
  xs : List (List Int × Addr × Value)
  es : List Ent
  fz : List (Addr × Obj)
  ahead : Int
  ta : Tok
section
local macro_rules | `(tactic| walk_at "CompSrc") => `(tactic| (k_here; refine stop_here ?_))
section
variable {w : World} {mean : ExcName → Option Value} {mg mb : Str → Option Value} {dp un : Nat} {gd : Option (List Code)} {cn : Str} {cs : Scope} {a : Addr} {ccd : Value} {cl : List (Str × Addr)} {outer : List Env} {A₀ : Around} {base h₀ : Heap} {L : Addr} {m : Str → Option Value} {s : Shared} {Q E : Value → Shared → Prop} {news : List (Addr × Obj)}

set_option maxHeartbeats 8000000 in
theorem due_many_spec {fr lo : Addr} {g : Geo} {ps : List Int} {vs : List Value} {ln : Nat} (B : Below A₀ base outer h₀) (F : Fr h₀ L s.heap m) (X : (hd.heap_1 w.params).In h₀) (N : News h₀ L s.heap news) (T : Top lview (looseW lview []) mean mg mb h₀) (hk : cs.kind = .function)
    (hdp : dp + 10 < recursionLimit) (hun : un + 80 < cLine)
    (hf : FrameIn w news fr g) (hg : g.Ok) (hl : (lo, listOf vs.toArray ln) ∈ news) (hi : IntsAre vs ps) (hp : PlacesOk g.comps.length ps) (hal : ¬ ps.length = 1)
    (hret : ∀ r d t nt new h' tk', Fr h₀ L h' m → News h₀ L h' (new ++ news) → Apart new news → (r, ({ cls := .type "tuple", data := .seq #[.int (g.side * g.rows) t, .ref d] nt } : Obj)) ∈ new → DueIn w new d (dueMany g ps ps.length) → Q (.ref r) { s with heap := h', toks := tk' }) :
    wpAny (model PySem.Challenge.rw_pf0231_01.row.prog w) (ktrTop dp un gd cn cs L a ccd cl outer) (call (.ref 228) [.ref fr, .ref lo]) Q E s := by
  w_on
  have hz : PySem.Challenge.rw_pf0231_01 = PySem.Challenge.rw_pf0231_01 ∧ hd.heap_1 = hd.heap_1 := by
    k_fill
    exact ⟨rfl, rfl⟩
  clear hz
  have hvl : (vs.length : Int) = (ps.length : Int) := by rw [hi.length]
  have hl3 := hg.len
  have hpl := hp.len
  have hpp := hp.pos
  have hA := hg.mA
  have hD := hg.mD
  have hw := hg.width
  have hh := hg.height
  obtain ⟨gd', gl, q1, q2, q3, q4, q5, q6, u1, u2, u3, u4, u6, un1, un2, fvs, m1, m2, m3, m4⟩ := id hf
  refine wpAny_call ?_
  k_dflt (refine' code_defC ?k1 ?k2 ?k3 ?k4 ?k5 ?kA ?kF ?kK ?k6 ?k7 ?k8 ?k9 ?kB ?kD ?_ ?c2 ?c3 ?c4; (case kA => exact rfl); (case kF => exact rfl); (case kK => assumption); (case k1 => k_asm); (case k2 => k_asm); (case k3 => k_asm); (case k4 => k_asm); (case k5 => k_asm); (case k6 => k_is); (case k7 => k_is); (case k8 => ktr_room); (case k9 => exact BindsTo.of_eq rfl); (case kB => exact rfl); (case kD => decide +kernel); (case c2 => exact rfl); (case c3 => exact rfl); (case c4 => exact rfl); k_whole; intro g' L' h' tk' cells' FG' F' N' Y' B' X' T' l1; (try k_lt l1); k_cells Y'; (try simp only [List.cons_append, List.nil_append] at N'); (try dsimp only); (try k_fold))
  rename_i oW oO dW dO
  have F0 : Fr g' L' h' (fun z => if z = Str.ofString "frame" then some (.ref fr) else none) := F'
  have hdO : oO.data = .cell (some (.ref lo)) := dO
  have hL1 : ∀ p ∈ news, p.1 ≠ L' + 1 := fun p hp => Nat.ne_of_lt (Nat.lt_succ_of_lt (l1 p hp))
  have hL2 : ∀ p ∈ news, p.1 ≠ L' + 1 + 1 := fun p hp => Nat.ne_of_lt (Nat.lt_succ_of_lt (Nat.lt_succ_of_lt (l1 p hp)))
  obtain ⟨T0, hT0⟩ : ∃ T0, T0 = (L' + 1 + 1, oW) :: (L' + 1, oO) :: news := ⟨_, rfl⟩
  have hsub : ∀ p ∈ news, p ∈ T0 := fun p hp => by rw [hT0]; exact List.mem_cons_of_mem _ (List.mem_cons_of_mem _ hp)
  have hcO : (L' + 1, oO) ∈ T0 := by rw [hT0]; exact List.mem_cons_of_mem _ List.mem_cons_self
  rw [← hT0] at N'
  clear dO dW F' N
  have m4' := m4.mono hsub
  have m1' := hsub _ m1
  have m2' := hsub _ m2
  have m3' := hsub _ m3
  have hl' := hsub _ hl
  refine stmt_step (R := fun s' => ∃ h tk, s' = { s with heap := h, toks := tk } ∧ Fr g' L' h (fun z => if z = Str.ofString "frame" then some (.ref fr) else none) ∧ News g' L' h T0) ?a1 ?k1
  case a1 =>
    have hal2 : (ps.length : Int) ≠ 1 := by omega
    k_steps
    all_goals first
      | (exfalso; omega)
      | exact ⟨rfl, _, _, rfl, by assumption, by assumption⟩
  case k1 =>
    rintro s1 ⟨h1, tk1, rfl, F1, N1⟩
    clear F0 N'
    refine stmt_step (R := fun s' => ∃ h tk, s' = { s with heap := h, toks := tk } ∧ Fr g' L' h (fun z => if z = Str.ofString "members" then some (.ref gl) else if z = Str.ofString "frame" then some (.ref fr) else none) ∧ News g' L' h T0) ?a2 ?k2
    case a2 =>
      k_steps
      exact ⟨rfl, _, _, rfl, by assumption, by assumption⟩
    case k2 =>
      rintro s2 ⟨h2, tk2, rfl, F2, N2⟩
      clear F1 N1
      refine stmt_step (R := fun s' => ∃ h tk t, s' = { s with heap := h, toks := tk } ∧ Fr g' L' h (fun z => if z = Str.ofString "side" then some (.int g.side t) else if z = Str.ofString "members" then some (.ref gl) else if z = Str.ofString "frame" then some (.ref fr) else none) ∧ News g' L' h T0) ?a3 ?k3
      case a3 =>
        have hlen := m4'.len
        k_steps
        refine stop_go ?_
        refine LCg.CompSrc.ledger (its := fvs.toArray) (k := un2) rfl (by assumption) (by assumption) (by k_mem) (by rw [List.size_toArray, sizeLine_eq]; omega) (fun g' => ?_)
        refine compRest_inv fvs.toArray.size (fun j ys2 nx => nx = _ ∧ IntsAre ys2 ((g.comps.map Cmp.across).take j)) ?stepA ?finA _ 0 [] _ rfl ⟨rfl, .nil⟩
        case stepA =>
          intro j ys2 nx v2 I oI C2 oC2 D2 m3 hh3 tk3 E3 hj hinv hv2 hC2 hx2 F4 N4 off4 ne4
          obtain ⟨rfl, hi2⟩ := hinv
          obtain ⟨c9, hc9, a9, d9, _, _, _, _, _, _, _, _, _, rfl, ha9, hd9⟩ := m4'.at (by simpa using hv2)
          k_steps
          rw [take_map_succ hc9]
          exact hi2.append (.cons _ _ .nil)
        case finA =>
          rintro ys2 nx ⟨rfl, hi2⟩ D2 h5 tk5 F5 N5 o5
          rw [List.take_of_length_le (by rw [List.length_map, List.size_toArray, hlen]; exact Nat.le_refl _)] at hi2
          k_steps
          rename_i t _ _ _ F9 N9
          exact ⟨by trivial, _, _, t, rfl, F9, fun q hq => N9 q (List.mem_cons_of_mem _ hq)⟩
      case k3 =>
        rintro s3 ⟨h3, tk3, t3, rfl, F3, N3⟩
        clear F2 N2
        refine stmt_step (R := fun s' => ∃ h tk t ta fd od, s' = { s with heap := h, toks := tk } ∧ Fr g' L' h (fun z => if z = Str.ofString "rows" then some (.int g.rows t) else if z = Str.ofString "found" then some (.ref fd) else if z = Str.ofString "ahead" then some (.int 0 ta) else if z = Str.ofString "side" then some (.int g.side t3) else if z = Str.ofString "members" then some (.ref gl) else if z = Str.ofString "frame" then some (.ref fr) else none) ∧ News g' L' h ((fd, od) :: T0) ∧ (∀ p ∈ T0, p.1 < fd) ∧ (fd == sysModules) = false ∧ TDict PySem.Challenge.rw_pf0231_01.row.prog w od []) ?a4 ?k4
        case a4 =>
          have hlen := m4'.len
          k_steps
          refine stop_go ?_
          refine LCg.CompSrc.ledger (its := fvs.toArray) (k := un2) rfl (by assumption) (by assumption) (by k_mem) (by rw [List.size_toArray, sizeLine_eq]; omega) (fun g' => ?_)
          refine compRest_inv fvs.toArray.size (fun j ys2 nx => nx = _ ∧ IntsAre ys2 ((g.comps.map Cmp.down).take j)) ?stepD ?finD _ 0 [] _ rfl ⟨rfl, .nil⟩
          case stepD =>
            intro j ys2 nx v2 I oI C2 oC2 D2 m3 hh3 tk3 E3 hj hinv hv2 hC2 hx2 F4 N4 off4 ne4
            obtain ⟨rfl, hi2⟩ := hinv
            obtain ⟨c9, hc9, a9, d9, _, _, _, _, _, _, _, _, _, rfl, ha9, hd9⟩ := m4'.at (by simpa using hv2)
            k_steps
            rw [take_map_succ hc9]
            exact hi2.append (.cons _ _ .nil)
          case finD =>
            rintro ys2 nx ⟨rfl, hi2⟩ D2 h5 tk5 F5 N5 o5
            rw [List.take_of_length_le (by rw [List.length_map, List.size_toArray, hlen]; exact Nat.le_refl _)] at hi2
            k_steps
            rename_i t _ _ fd _ od lod _ _ hid _ l1d _ _ _ _ _ _ h9 F9 N9
            refine ⟨by trivial, h9, _, t, _, fd, od, rfl, F9, fun q hq => N9 q ?_, allLt_out l1d.2, lod, TDict.nil hid⟩
            simp only [List.mem_cons] at hq ⊢
            rcases hq with hq | hq <;> simp [hq]
        case k4 =>
          rintro s4 ⟨h4, tk4, t4, ta, fd, od, rfl, F4, N4, hfd, hsys, hTD⟩
          clear F3 N3
          refine wpAny_execs_cons ?_
          clear hL1 hL2
          k_steps
          rename_i lF
          unfold MyLoop
          have hrb := rows_bounds hg
          have hsb := side_bounds hg
          refine for_lst (σ := DS) (vs := vs) (ns := ps) (nn := ln) (fun c => [(fd, c.o)]) [fd] DS.fz (fun c => [(Str.ofString "ahead", .int c.ahead c.ta)]) [Str.ofString "one", Str.ofString "y", Str.ofString "x", Str.ofString "spot"]
            (fun i c => TDict PySem.Challenge.rw_pf0231_01.row.prog w c.o c.xs ∧ EntsIn c.fz c.xs c.es ∧ c.es = dueMany g ps i ∧ c.ahead = aheadOf g ps i ∧ c.xs.length ≤ 65536 * i ∧ 0 ≤ c.ahead ∧ c.ahead ≤ 16 * i) T0 ⟨od, [], [], [], 0, ta⟩ rfl hl' hi lF N4 (fun _ h => h) (fun _ => rfl)
            (fun p hp => by simpa using Nat.ne_of_lt (hfd p hp)) (fun _ h => nomatch h) (by intro p hp; rw [List.mem_singleton.mp hp]; rfl) ⟨hTD, trivial, rfl, rfl, Nat.zero_le _, Int.le_refl _, Int.le_refl _⟩ ?turn ?done
          case turn =>
            intro i k c T' u t5 h5 tk5 hik hP hz hD5 hT F5 N5
            simp only [Int.zero_add, List.cons_append, List.nil_append] at F5 N5
            dsimp only [envOfC] at F5 N5
            obtain ⟨hPt, hPe, hPs, hPa, hPl, hPa0, hPa1⟩ := hP
            have hil : i < ps.length := (List.getElem?_eq_some_iff.mp hik).1
            have hkm : k ∈ ps := List.mem_of_getElem? hik
            have hlow := hp.low k hkm
            have hgk : ps.getD i 0 = k := by rw [List.getD_eq_getElem?_getD, hik]; rfl
            obtain ⟨cv, hcv, ⟨ca, cd, _, _, _, _, _, _, _, _, _, rfl, hca0, hcd0⟩⟩ := m4'.get (Geo.at_get hp hkm)
            have hcm := Geo.at_mem hp hkm
            have hca := hg.across _ hcm
            have hcd := hg.down _ hcm
            have hrd := mul_bounds hrb hcd
            have hsa := mul_bounds hsb hca
            have hne : ∀ p ∈ T', p.1 ≠ fd := fun p hp => by simpa using hD5 p hp
            replace hca0 := hT _ hca0
            replace hcd0 := hT _ hcd0
            have m3t := hT _ m3'
            have hc3 : c.ahead ≤ 48 := by omega
            k_steps
            rename_i hR2 hF2 hN2 hK2
            unfold MyLoop
            refine for_rng (σ := DS) (n := (g.rows * (g.at k).down).toNat) (fun c => [(fd, c.o)]) [fd] DS.fz (fun _ => []) [Str.ofString "x", Str.ofString "spot"]
              (fun j c' => TDict PySem.Challenge.rw_pf0231_01.row.prog w c'.o c'.xs ∧ EntsIn c'.fz c'.xs c'.es ∧ c'.es = dueMany g ps i ++ (List.range j).flatMap (dueRow k (g.at k) g.side c.ahead) ∧ c'.xs.length ≤ 65536 * i + 256 * j) T' c rfl hR2 (small_one (by omega) (by omega) (by omega) (by omega)) (rangeSize_toNat (by omega)) hF2 hN2 (fun _ h => h) (fun _ => rfl)
              hD5 hz (fun _ h => nomatch h) ⟨hPt, hPe, by simp [hPs], by omega⟩ ?turn2 ?done2
            case turn2 =>
              intro j c2 T2 u2 t2' h2' tk2' hj hP2 hz2 hD2 hT2 F6 N6
              simp only [Int.zero_add, List.cons_append, List.nil_append] at F6 N6
              dsimp only [envOfC] at F6 N6
              obtain ⟨hPt2, hPe2, hPs2, hPl2⟩ := hP2
              have hne2 : ∀ p ∈ T2, p.1 ≠ fd := fun p hp => by simpa using hD2 p hp
              replace hca0 := hT2 _ hca0
              replace hcd0 := hT2 _ hcd0
              have hj2 : (j : Int) < g.rows * (g.at k).down := by omega
              k_steps
              rename_i hR3 hF3 hN3 hK3
              unfold MyLoop
              refine for_rng (σ := DS) (n := (g.side * (g.at k).across).toNat) (fun c => [(fd, c.o)]) [fd] DS.fz (fun _ => []) [Str.ofString "spot"]
                (fun kx c' => TDict PySem.Challenge.rw_pf0231_01.row.prog w c'.o c'.xs ∧ EntsIn c'.fz c'.xs c'.es ∧ c'.es = (dueMany g ps i ++ (List.range j).flatMap (dueRow k (g.at k) g.side c.ahead)) ++ (List.range kx).map (dueCell k (g.at k) g.side c.ahead j) ∧ c'.xs.length ≤ 65536 * i + 256 * j + kx) T2 c2 rfl hR3 (small_one (by omega) (by omega) (by omega) (by omega)) (rangeSize_toNat (by omega)) hF3 hN3 (fun _ h => h) (fun _ => rfl)
                hD2 hz2 (fun _ h => nomatch h) ⟨hPt2, hPe2, by simp [hPs2], by omega⟩ ?turn3 ?done3
              case turn3 =>
                intro kx c3 T3 u3 t3' h3' tk3' hkx hP3 hz3 hD3 hT3 F7 N7
                simp only [Int.zero_add, List.cons_append, List.nil_append] at F7 N7
                dsimp only [envOfC] at F7 N7
                obtain ⟨hPt3, hPe3, hPs3, hPl3⟩ := hP3
                have hne3 : ∀ p ∈ T3, p.1 ≠ fd := fun p hp => by simpa using hD3 p hp
                replace hca0 := hT3 _ hca0
                replace hcd0 := hT3 _ hcd0
                have hx2 : (kx : Int) < g.side * (g.at k).across := by omega
                have hnew : atKey c3.xs [k, (kx : Int), (j : Int)] = none := key_new hPe3 (by rw [hPs3]; exact due_fresh hp.nodup hik)
                have dK3 : ∀ x ∈ c3.xs, KeyIn T3 x.1 x.2.1 := keys_mono hPe3.keysIn hz3
                have hsz : c3.xs.length ≤ 1000000 := by omega
                k_steps
                rename_i D1 _ la D2 _ _ _ lb h9 o9 _ F9 N9 td
                obtain ⟨p2, p1, e2, e1, N10⟩ : ∃ p2 p1, p2 = _ ∧ p1 = _ ∧ News _ _ h9 ((fd, o9) :: (D2, p2) :: (D1, p1) :: T3) := ⟨_, _, rfl, rfl, news_rot3 N9⟩
                refine ⟨⟨o9, _, c3.es ++ [dueCell k (g.at k) g.side c.ahead j kx], (D2, p2) :: (D1, p1) :: c3.fz, c3.ahead, c3.ta⟩, [(D2, p2), (D1, p1)], h9, _, _, rfl, F9, N10, ?_, ?_, ?_, (by intro p h; cases h), ?_, td, ?_, ?_, ?_⟩
                · intro q hq
                  rcases List.mem_cons.mp hq with rfl | hq
                  · simpa using Nat.ne_of_gt lb.2.1
                  · rcases List.mem_cons.mp hq with rfl | hq
                    · simpa using Nat.ne_of_gt la.1
                    · cases hq
                · exact Apart.cons (fun p hp => Nat.ne_of_lt (allLt_out lb.2.2 p hp)) (Apart.cons (fun p hp => Nat.ne_of_lt (allLt_out la.2 p hp)) Apart.nil)
                · intro p hp
                  simp only [List.mem_cons, List.mem_append, List.not_mem_nil, or_false] at hp ⊢
                  rcases hp with hp | hp | hp <;> simp [hp]
                · intro z z1 _ z3
                  simp only [List.contains_cons, List.contains_nil, Bool.or_false, Bool.or_eq_false_iff, beq_eq_false_iff_ne] at z3
                  simp [kstB, z1, z3]
                · have hkey : KeyIn ((D2, p2) :: (D1, p1) :: c3.fz) [k, (kx : Int), (j : Int)] D2 := ⟨[_, _, _], _, by rw [e2]; exact List.mem_cons_self, .cons _ _ (.cons _ _ (.cons _ _ .nil))⟩
                  refine (hPe3.mono fun q hq => List.mem_cons_of_mem _ (List.mem_cons_of_mem _ hq)).append ⟨hkey, rfl, ?_⟩
                  exact .tuple (vs := [_, _]) (by rw [e1]; exact List.mem_cons_of_mem _ List.mem_cons_self) (.cons (.int _ _) (.cons (.int _ _) .nil))
                · show c3.es ++ _ = _
                  rw [hPs3, List.range_succ, List.map_append]
                  simp only [List.map_cons, List.map_nil, List.append_assoc]
                · simp only [List.length_append, List.length_cons, List.length_nil]
                  omega
              case done3 =>
                intro c3 new u3 h3' tk3' hP3 hnD hap hfz F7 N7
                simp only [List.cons_append, List.nil_append] at N7
                dsimp only [envOfC] at F7 N7
                obtain ⟨hPt3, hPe3, hPs3, hPl3⟩ := hP3
                k_steps
                refine ⟨c3, new, h3', tk3', _, rfl, F7, N7, hnD, hap, hfz, (by intro p h; cases h), ?_, hPt3, hPe3, ?_, ?_⟩
                · intro z z1 _ z3
                  simp only [List.contains_cons, List.contains_nil, Bool.or_false, Bool.or_eq_false_iff, beq_eq_false_iff_ne] at z3
                  simp [kstB, z1, z3]
                · rw [hPs3, List.range_succ, List.flatMap_append]
                  simp only [List.flatMap_cons, List.flatMap_nil, List.append_nil, List.append_assoc]
                  rfl
                · omega
            case done2 =>
              intro c2 new2 u2 h2' tk2' hP2 hnD hap hfz F6 N6
              simp only [List.cons_append, List.nil_append] at N6
              dsimp only [envOfC] at F6 N6
              obtain ⟨hPt2, hPe2, hPs2, hPl2⟩ := hP2
              obtain ⟨T9, hT9⟩ : ∃ T9, T9 = new2 ++ T' := ⟨_, rfl⟩
              have hsub9 : ∀ p ∈ T', p ∈ T9 := fun p hp => by rw [hT9]; exact List.mem_append.mpr (.inr hp)
              rw [← hT9] at N6
              replace hca0 := hsub9 _ hca0
              replace hcd0 := hsub9 _ hcd0
              have hac := mul_bounds hca hcd
              k_steps
              rename_i h9 F9 N9
              rw [hT9] at N9
              refine' ⟨⟨c2.o, c2.xs, c2.es, c2.fz, c.ahead + (g.at k).across * (g.at k).down, ?ta9⟩, new2, h9, _, _, rfl, F9, N9, hnD, hap, hfz, ?ps9, ?map9, hPt2, hPe2, ?es9, ?ah9, ?ln9, ?b9, ?c9⟩
              case ps9 =>
                intro p hp
                rw [List.mem_singleton.mp hp]
                with_unfolding_all rfl
              case map9 =>
                intro z z1 z2 z3
                simp only [List.forall_mem_cons, List.not_mem_nil, false_implies, implies_true, and_true, ne_eq] at z2
                simp only [List.contains_cons, List.contains_nil, Bool.or_false, Bool.or_eq_false_iff, beq_eq_false_iff_ne] at z3
                simp [kstB, z1, z2, z3]
              case es9 =>
                show c2.es = _
                rw [hPs2]
                unfold dueMany
                rw [List.range_succ, List.flatMap_append]
                simp only [List.flatMap_cons, List.flatMap_nil, List.append_nil]
                rw [hgk, ← hPa]
                rfl
              case ah9 =>
                show c.ahead + _ = _
                rw [hPa, ahead_succ hil, hgk]
              case ln9 =>
                show c2.xs.length ≤ _
                omega
              case b9 =>
                show 0 ≤ c.ahead + _
                omega
              case c9 =>
                show c.ahead + _ ≤ _
                omega
          case done =>
            intro c new u h5 tk5 hP hnD hap hfz F5 N5
            simp only [List.cons_append, List.nil_append] at N5
            dsimp only [envOfC] at F5 N5
            obtain ⟨hPt, hPe, hPs, hPa, hPl, hPa0, hPa1⟩ := hP
            k_steps
            rename_i D2 _ _ _ lb kF kN _ _
            obtain ⟨p2, e2, kN2⟩ : ∃ p2, p2 = _ ∧ News _ _ _ ((D2, p2) :: (fd, c.o) :: (new ++ T0)) := ⟨_, rfl, kN⟩
            refine hret D2 fd _ 0 ((D2, p2) :: (fd, c.o) :: (new ++ [(L' + 1 + 1, oW), (L' + 1, oO)])) _ _ kF (fun q hq => kN2 q ?_) ?_ (by rw [e2]; exact List.mem_cons_self) ⟨c.o, c.xs, List.mem_cons_of_mem _ List.mem_cons_self, hPt, ?_, hsys⟩
            · rw [hT0]
              simp only [List.mem_cons, List.mem_append, List.cons_append, List.append_assoc, List.nil_append] at hq ⊢
              rcases hq with hq | hq | hq | hq | hq | hq <;> simp [hq]
            · refine Apart.cons (fun q hq => Nat.ne_of_lt (allLt_out lb.2 q (List.mem_append.mpr (.inr (hsub q hq))))) (Apart.cons (fun q hq => Nat.ne_of_lt (hfd q (hsub q hq))) (fun q hq r hr => ?_))
              rcases List.mem_append.mp hq with hq | hq
              · exact hap q hq r (hsub r hr)
              · simp only [List.mem_cons, List.not_mem_nil, or_false] at hq
                rcases hq with rfl | rfl
                · exact Nat.ne_of_lt (Nat.lt_succ_of_lt (Nat.lt_succ_of_lt (l1 r hr)))
                · exact Nat.ne_of_lt (Nat.lt_succ_of_lt (l1 r hr))
            · rw [← hPs]
              refine hPe.mono fun q hq => ?_
              have := hfz q hq
              simp only [List.append_nil] at this
              exact List.mem_cons_of_mem _ (List.mem_cons_of_mem _ (List.mem_append.mpr (.inl this)))
end
end
-- C15
section
variable {w : World} {mean : ExcName → Option Value} {mg mb : Str → Option Value} {dp un : Nat} {gd : Option (List Code)} {cn : Str} {cs : Scope} {a : Addr} {ccd : Value} {cl : List (Str × Addr)} {outer : List Env} {A₀ : Around} {base h₀ : Heap} {L : Addr} {m : Str → Option Value} {s : Shared} {Q E : Value → Shared → Prop} {news : List (Addr × Obj)}

theorem due_spec {fr lo : Addr} {g : Geo} {ps : List Int} {vs : List Value} {ln : Nat} (B : Below A₀ base outer h₀) (F : Fr h₀ L s.heap m) (X : (hd.heap_1 w.params).In h₀) (N : News h₀ L s.heap news) (T : Top lview (looseW lview []) mean mg mb h₀) (hk : cs.kind = .function)
    (hdp : dp + 12 < recursionLimit) (hun : un + 96 < cLine)
    (hf : FrameIn w news fr g) (hg : g.Ok) (hl : (lo, listOf vs.toArray ln) ∈ news) (hi : IntsAre vs ps) (hp : PlacesOk g.comps.length ps)
    (hret : ∀ r d t nt new h' tk', Fr h₀ L h' m → News h₀ L h' (new ++ news) → Apart new news → (r, ({ cls := .type "tuple", data := .seq #[.int (uA g ps * uD g ps) t, .ref d] nt } : Obj)) ∈ new → DueIn w new d (dueEnts g ps) → Q (.ref r) { s with heap := h', toks := tk' }) :
    wpAny (model PySem.Challenge.rw_pf0231_01.row.prog w) (ktrTop dp un gd cn cs L a ccd cl outer) (call (.ref 228) [.ref fr, .ref lo]) Q E s := by
  by_cases hal : ps.length = 1
  · obtain ⟨p, rfl, hp0, hp1, hp2, hpc⟩ := at_one hp hal
    exact due_one_spec B F X N T hk (by omega) (by omega) hf hg hl hi hp hret
  · have eA : uA g ps = g.side := if_neg hal
    have eD : uD g ps = g.rows := if_neg hal
    have eE : dueEnts g ps = dueMany g ps ps.length := if_neg hal
    rw [eA, eD, eE] at hret
    exact due_many_spec B F X N T hk (by omega) (by omega) hf hg hl hi hp hal hret
end
-- G1
abbrev NoErr : Value → Shared → Prop := fun _ _ => False
section
variable {prog : Program} {w : World} {A : Around} {R : GenEnd} {Y : Protocol} {n : Nat} {s₀ : Shared} {c : Code} {fs : List Frame} {s : Shared} {env : Env}
  {K : Flow → Sem Fin} {H : Value → Sem Fin} {gd : Bool → Bool} {lv : List Value → List Value}
theorem no_err {M : Model} {A : Around} {α : Type} {m : Sem α} {Q Q' : α → Shared → Prop} {E : Value → Shared → Prop} {s : Shared} (h : wpAny M A m Q NoErr s) (hq : ∀ a s', Q a s' → Q' a s') : wpAny M A m Q' E s := wpAny_mono h hq fun _ _ e => e.elim
/-- a for within a generator's body -/
theorem seg_For {target iter : Expr} {body : List Stmt} {pos : Pos} (hs : ∀ x, foldedSetIterable iter env x = pure x) (hgd : gd false = false)
    (h : wpAny (model prog w) (A.over c fs) (eval iter env) (fun xv s₁ => wpAny (model prog w) (A.over c fs) (pyIter xv) (fun it s₂ =>
      ∀ kk : Result → Sem Fin, (∀ f, kk (.ok f) = K f) → ∀ l p, Seg (model prog w) A R Y n s₀ (.forLoop target it body [] env) ((model prog w).den (.forLoop target it body [] env)) (.ret kk none false l c p [] :: fs) s₂) NoErr s₁) NoErr s) :
    Seg (model prog w) A R Y n s₀ c ((exec (.For target iter body [] pos) env).wrap K H gd lv) fs s := by
  show Seg _ A R Y n s₀ c ((standAt pos >>= fun _ => (eval iter env >>= fun v => foldedSetIterable iter env v >>= fun x => standAt iter.pos >>= fun _ => holding [x] (pyIter x) >>= fun it => runOwn (.forLoop target it body [] env) env)).wrap K H gd lv) fs s
  refine seg_bind_wrap (wpAny_standAt ?_)
  refine seg_bind_wrap (no_err h (fun xv s₁ h₁ => ?_))
  refine seg_bind_wrap (wpAny_of_eq (hs xv) ?_)
  refine seg_bind_wrap (wpAny_standAt ?_)
  refine seg_bind_wrap (wpAny_holding (no_err h₁ (fun it s₂ h₂ => ?_)))
  exact seg_call fun p => by rw [hgd]; exact h₂ _ (fun f => rfl) _ p
/-- a turn of it -/
theorem seg_forLoop {x : Str} {px : Pos} {it : Value} {body : List Stmt}
    (h : wpAny (model prog w) (A.over (.forLoop (.Name x px) it body [] env) fs) (pyNext it) (fun r s₁ => match r with
      | none => Seg (model prog w) A R Y n s₀ (.block [] env) ((model prog w).den (.block [] env)) fs s₁
      | some v => wpAny (model prog w) (A.over (.forLoop (.Name x px) it body [] env) fs) (assign (.Name x px) env v) (fun _ s₂ =>
          ∀ H' : Value → Sem Fin, Seg (model prog w) A R Y n s₀ (.forLoop (.Name x px) it body [] env) ((execs body env).wrap (fun f => match f with
            | .next | .cont => .pure (.again (.forLoop (.Name x px) it body [] env))
            | .brk => .pure (.done .next)
            | .ret v => .pure (.done (.ret v))) H' id id) fs s₂) NoErr s₁) NoErr s) :
    Seg (model prog w) A R Y n s₀ (.forLoop (.Name x px) it body [] env) ((model prog w).den (.forLoop (.Name x px) it body [] env)) fs s := by
  show Seg _ A R Y n s₀ _ ((forTurn (.Name x px) it body [] env).onRaise (fun x => do noteFrame x env; theTreesLotGoes x)) fs s
  unfold forTurn
  rw [Sem.onRaise_eq_wrap]
  refine seg_bind_wrap (wpAny_standAt ?_)
  refine seg_bind_wrap (wpAny_onRaise (wpAny_mono h (fun r s₁ h₁ => ?_) fun _ _ e => e.elim))
  cases r with
  | none => exact seg_again rfl h₁
  | some v =>
    refine seg_bind_wrap (wpAny_of_eq (rfl : letOwnedTupleGo (.Name x px) it v = pure ()) ?_)
    refine seg_bind_wrap (no_err h₁ (fun _ s₂ h₂ => ?_))
    rw [Sem.bind_eq_wrap', Sem.wrap_wrap]
    have q := h₂ (fun e => (Sem.raise e : Sem Fin).wrap Sem.pure (fun e => (do noteFrame e env; theTreesLotGoes e : Sem Unit).bind fun _ => .raise e) id id)
    rw [Sem.wrap_congr (execs body env) _ _ (K' := _) (H' := _) (fun f => ?_) (fun e => rfl)]
    · exact q
    · cases f <;> rfl
/-- behind the loop -/
theorem seg_behind {kk : Result → Sem Fin} {g : Bool} {l : List Value} {c₁ : Code} {p₁ : Pos} {kp} (h : Seg (model prog w) A R Y n s₀ c₁ (kk (.ok .next)) fs s) :
    Seg (model prog w) A R Y n s₀ (.block [] env) ((model prog w).den (.block [] env)) (.ret kk none g l c₁ p₁ kp :: fs) s := by
  show Seg _ A R Y n s₀ _ (leafOf (.ok .next)) _ s
  exact seg_leaf _ h
end
-- G2
/-- all that stands in a heap -/
def allOf (h : Heap) : List (Addr × Obj) := (List.range h.objs.size).filterMap fun b => (h.get? b).map fun o => (b, o)
theorem mem_allOf {h : Heap} {b : Addr} {o : Obj} : (b, o) ∈ allOf h ↔ h.get? b = some o := by
  unfold allOf
  rw [List.mem_filterMap]
  constructor
  · rintro ⟨x, _, hx⟩
    cases e : h.get? x with
    | none => rw [e] at hx; cases hx
    | some o' => rw [e] at hx; cases hx; exact e
  · intro e
    exact ⟨b, List.mem_range.mpr (Heap.lt_size e), by rw [e]; rfl⟩
/-- all that stands in h, but for g and the given places -/
def others (g h : Heap) (l : List Addr) : List (Addr × Obj) := (allOf h).filter fun p => (g.get? p.1).isNone && !l.contains p.1
theorem mem_others {g h : Heap} {l : List Addr} {b : Addr} {o : Obj} : (b, o) ∈ others g h l ↔ h.get? b = some o ∧ g.get? b = none ∧ b ∉ l := by
  unfold others
  rw [List.mem_filter, mem_allOf]
  simp [Option.isNone_iff_eq_none]
theorem others_news {g h : Heap} {l : List Addr} {Lg : Addr} (hl : Lg ∈ l) : News g Lg h (others g h l) := fun p hp => by
  obtain ⟨b, o⟩ := p
  obtain ⟨h1, h2, h3⟩ := mem_others.mp hp
  exact ⟨h1, fun e => h3 (by rw [show b = Lg from e]; exact hl), h2⟩
theorem push_none {h : Heap} {o : Obj} {b : Addr} (e : h.get? b = none) (hb : b ≠ h.objs.size) : (h.push o).get? b = none := by
  cases q : (h.push o).get? b with
  | none => rfl
  | some o' =>
    have hlt := Heap.lt_size q
    rw [Heap.size_push] at hlt
    have : (h.push o).get? b = h.get? b := by
      unfold Heap.get?
      have hne : b < h.objs.size := Nat.lt_of_le_of_ne (Nat.le_of_lt_succ hlt) hb
      simp [Heap.push, Array.getElem?_push, Nat.ne_of_lt hne]
    rw [this, e] at q
    cases q
section
variable {K : Frag} {p : Program} {loose : List Str} {mean : ExcName → Option Value} {mg mb : Str → Option Value} {h₀ h base : Heap} {L Lg : Addr} {m mu : Str → Option Value} {A₀ : Around} {outer : List Env} {env : Env}
/-- the ground on which a suspended frame goes on -/
theorem gen_ground {dp un : Nat} {gd : Option (List Code)} (hL : L = h₀.objs.size) (B : Below A₀ base outer h₀) (F : Fr h₀ L h m) (X : K.In h₀) (T : Top p loose mean mg mb h₀) (hf : env.frame = some L) (hke : env.scope.kind = .function)
    (hLg : L < Lg) (hu : h.Ns Lg mu) (hu0 : h₀.get? Lg = none) : ∃ g, Fr g Lg h mu ∧ Below { handled := none, depth := dp, frames := some (env :: outer), guards := gd, units := un } base (env :: outer) g ∧ K.In g ∧ Top p loose mean mg mb g ∧
      (∀ b, g.get? b = none ↔ (h₀.get? b = none ∧ b ≠ L)) ∧ (∀ b o, g.get? b = some o → h.get? b = some o) := by
  obtain ⟨oL, es, ep, hLo, hLd, hLk, hLf⟩ := F.ns
  have hfree : oL.isFreed = false := (Heap.get?_some_iff.mp hLo).2
  have hsz : (h₀.push oL).get? L = some oL := by rw [hL]; exact Heap.get?_push_size _ hfree
  have st : h₀.StaysIn (h₀.push oL) := fun b o e => Heap.get?_push_of_some _ e
  have hn : ∀ b, (h₀.push oL).get? b = none ↔ (h₀.get? b = none ∧ b ≠ L) := fun b => by
    constructor
    · intro e
      refine ⟨?_, fun q => ?_⟩
      · cases q : h₀.get? b with
        | none => rfl
        | some o => rw [st b o q] at e; cases e
      · rw [q, hsz] at e; cases e
    · rintro ⟨e, q⟩
      exact push_none e (fun z => q (z.trans hL.symm))
  have hk : ∀ b o, (h₀.push oL).get? b = some o → h.get? b = some o := fun b o e => by
    by_cases q : b = L
    · rw [q] at e ⊢
      rw [hsz] at e
      cases e
      exact hLo
    · cases e0 : h₀.get? b with
      | none => rw [(hn b).mpr ⟨e0, q⟩] at e; cases e
      | some o' =>
        rw [st b o' e0] at e
        cases e
        exact F.keep b _ e0
  refine ⟨h₀.push oL, ⟨hu, hk, by rw [Heap.size_push, ← hL]; exact hLg⟩, ⟨rfl, fun b o e => st b o (B.stays b o e), ?_⟩, X.keeps st, T.keeps st, hn, hk⟩
  refine ⟨by rw [hke]; decide, ⟨L, oL, hf, ?_, hsz, fun vs e => by rw [hLd] at e; cases e⟩, B.frames.of_keeps fun b o e _ => ⟨o, st b o e, rfl⟩⟩
  cases q : base.get? L with
  | none => rfl
  | some o => exact absurd (Heap.lt_size (B.stays L o q)) (by rw [← hL]; exact Nat.lt_irrefl _)
end
-- G3
/-- no iterator over a range -/
def NotIt (o : Obj) : Prop := ¬ (o.cls = .type "range_iterator" ∧ ∃ vs, o.data = .fields vs)
theorem NotIt.cls {o : Obj} (h : o.cls ≠ .type "range_iterator") : NotIt o := fun x => h x.1
/-- what a segment of the generator leaves as it was -/
def Keepg (Lg : Addr) (h h' : Heap) : Prop := ∀ b o, h.get? b = some o → b ≠ Lg → (b < Lg ∨ NotIt o) → h'.get? b = some o
/-- what a yield of the generator says: k items are left behind it -/
def YU (N : Nat) (h₀ : Heap) (L Lg : Addr) (news : List (Addr × Obj)) (g : Geo) (ps : List Int) : Protocol := fun k s₀ v s kap =>
  ∃ (new : List (Addr × Obj)) (u : Addr) (h' : Heap) (tk : Nat) (oN : Obj) (I : Addr) (oI : Obj), v = .ref u ∧ s = { s₀ with heap := h', toks := tk } ∧ (∀ p ∈ new, h'.get? p.1 = some p.2 ∧ s₀.heap.get? p.1 = none ∧ p.2.cls ≠ .type "range_iterator" ∧ h₀.get? p.1 = none) ∧
    DatIn new (.ref u) (.list ((unitNo g ps ((N - 1 - k : Nat) : Int)).map blkD)) ∧ Keepg Lg s₀.heap h' ∧ h'.get? Lg = some oN ∧ h'.get? I = some oI ∧ Lg < I ∧ ¬ NotIt oI ∧
    ∀ (s'' : Shared) m, Fr h₀ L s''.heap m → News h₀ L s''.heap ((I, oI) :: (Lg, oN) :: news) → kap (.send .none) s''
def RU (Lg : Addr) : GenEnd := fun n s₀ r s₁ => r = .ok (.ret .none) ∧ (n = 0 ∧ ∃ h' tk, s₁ = { s₀ with heap := h', toks := tk } ∧ Keepg Lg s₀.heap h')
mutual
theorem datIn_filter {l : List (Addr × Obj)} : ∀ {v : Value} {d : Dat}, DatIn l v d → DatIn (l.filter fun p => p.2.cls != .type "range_iterator") v d
  | _, _, .none => .none
  | _, _, .bool b => .bool b
  | _, _, .int i t => .int i t
  | _, _, .str x t => .str x t
  | _, _, .bytes b t => .bytes b t
  | _, _, .tuple h r => .tuple (List.mem_filter.mpr ⟨h, by rfl⟩) (datAll_filter r)
  | _, _, .list h r => .list (List.mem_filter.mpr ⟨h, by rfl⟩) (datAll_filter r)
theorem datAll_filter {l : List (Addr × Obj)} : ∀ {vs : List Value} {ds : List Dat}, DatAll l vs ds → DatAll (l.filter fun p => p.2.cls != .type "range_iterator") vs ds
  | _, _, .nil => .nil
  | _, _, .cons h r => .cons (datIn_filter h) (datAll_filter r)
end
theorem ns_get {h : Heap} {L : Addr} {m : Str → Option Value} (x : h.Ns L m) : ∃ o, h.get? L = some o ∧ ∀ h' : Heap, h'.get? L = some o → h'.Ns L m :=
  let ⟨o, es, ep, e, r⟩ := x; ⟨o, e, fun h' e' => ⟨o, es, ep, e', r⟩⟩
section
variable {prog : Program} {w : World} {A A' Ax : Around} {K : Frag} {p : Program} {loose : List Str} {mean : ExcName → Option Value} {mg mb : Str → Option Value} {h₀ base : Heap} {L Lg : Addr} {A₀ : Around} {outer : List Env} {env envL : Env}
  {news : List (Addr × Obj)} {g : Geo} {ps : List Int} {N : Nat} {fr sc : Addr} {e : Expr} {px yp ep : Pos} {c₁ : Code} {p₁ : Pos} {kk : Result → Sem Fin} {gd : Bool} {l : List Value} {I : Addr} {dpx unx : Nat} {gdx : Option (List Code)}
/-- the frame's names, between two turns -/
def MuOk (g : Geo) (ps : List Int) (fr sc : Addr) (mu : Str → Option Value) : Prop := mu (Str.ofString "frame") = some (.ref fr) ∧ mu (Str.ofString "scan") = some (.ref sc) ∧ ∃ t, mu (Str.ofString "across") = some (.int (uA g ps) t)
/-- all of s₀'s heap that must stand is on the ground or in nx -/
def Whole (Lg I : Addr) (h gr : Heap) (nx : List (Addr × Obj)) : Prop :=
  (∀ b o, h.get? b = some o → b ≠ Lg → (b < Lg ∨ NotIt o) → gr.get? b = some o ∨ (b, o) ∈ nx) ∧ (∀ b o, h.get? b = some o → b = Lg ∨ b = I ∨ gr.get? b ≠ none ∨ ∃ o', (b, o') ∈ nx)
theorem seg_uloop (hL : L = h₀.objs.size) (hLg : L < Lg) (hLg0 : h₀.get? Lg = none) (B : Below A₀ base outer h₀) (X : K.In h₀) (T : Top p loose mean mg mb h₀) (hf : envL.frame = some L) (hke : envL.scope.kind = .function)
    (hA : A.over (.forLoop (.Name (Str.ofString "index") px) (.ref I) [.Expr (.Yield (some e) yp) ep] [] env) [.ret kk none gd l c₁ p₁ []] = A') (hA' : A'.handled = none)
    (hk1 : env.locals = Lg) (hk2 : env.kindOf (Str.ofString "index") = some .local) (hk3 : (env.scope.kind == .class || (env.scope.kind == .module && env.locals != env.globals)) = false) (hco : env.scope.isCoroutine = false) (hint : interactive env = false)
    (hsp : splitAtGen [Frame.ret kk none gd l c₁ p₁ []] = none) (hgu : [Frame.ret kk none gd l c₁ p₁ []].any Frame.guarded = false)
    (hend : ∀ s₀ s, RU Lg 0 s₀ (.ok (.ret .none)) s → Seg (model prog w) A (RU Lg) (YU N h₀ L Lg news g ps) 0 s₀ c₁ (kk (.ok .next)) [] s)
    (hel : ∀ (gr : Heap) (nx : List (Addr × Obj)) (s : Shared) (mu : Str → Option Value) (i : Nat) t, i < N → Below { handled := none, depth := dpx, frames := some (envL :: outer), guards := gdx, units := unx } base (envL :: outer) gr → K.In gr → Top p loose mean mg mb gr → Fr gr Lg s.heap mu → MuOk g ps fr sc mu →
      mu (Str.ofString "index") = some (.int (i : Int) t) → News gr Lg s.heap nx → (∀ q ∈ news, q ∈ nx) → wpAny (model prog w) A' (eval e env) (fun v s' => ∃ u new h' tk, v = .ref u ∧ s' = { s with heap := h', toks := tk } ∧ Fr gr Lg h' mu ∧ News gr Lg h' (new ++ nx) ∧ Apart new nx ∧
        DatIn new (.ref u) (.list ((unitNo g ps (i : Int)).map blkD))) NoErr s)
    (hI : Lg < I) (hIn : ∀ q ∈ news, q.1 ≠ I) (hLn : ∀ q ∈ news, q.1 ≠ Lg) :
    ∀ (k i : Nat) (s₀ s : Shared) (gr : Heap) (nx : List (Addr × Obj)) (mu : Str → Option Value), i + k = N → (∀ b, gr.get? b = none ↔ (h₀.get? b = none ∧ b ≠ L)) → gr.objs.size ≤ I →
      Below { handled := none, depth := dpx, frames := some (envL :: outer), guards := gdx, units := unx } base (envL :: outer) gr → K.In gr → Top p loose mean mg mb gr → Fr gr Lg s.heap mu → MuOk g ps fr sc mu →
      News gr Lg s.heap nx → (∀ q ∈ news, q ∈ nx) → (∀ q ∈ nx, q.1 ≠ I) → IsRangeIter s.heap I (0 + (i : Nat) * 1) ((N : Int) - (i : Nat)) 1 → Whole Lg I s₀.heap gr nx → (∃ h tk, s = { s₀ with heap := h, toks := tk }) →
      Seg (model prog w) A (RU Lg) (YU N h₀ L Lg news g ps) k s₀ (.forLoop (.Name (Str.ofString "index") px) (.ref I) [.Expr (.Yield (some e) yp) ep] [] env)
        ((model prog w).den (.forLoop (.Name (Str.ofString "index") px) (.ref I) [.Expr (.Yield (some e) yp) ep] [] env)) [.ret kk none gd l c₁ p₁ []] s := by
  have W := Walks.range (prog := prog) (w := w) (A := A') hA' I 0 1 N
  have hLI : Lg ≠ I := Nat.ne_of_lt hI
  intro k
  induction k with
  | zero =>
    intro i s₀ s gr nx mu hik hgn hgs Bg Xg Tg F hmu Nx hsub hnI hit hw hs
    obtain ⟨h0, tk0, rfl⟩ := hs
    have hiN : i = N := by omega
    subst hiN
    refine seg_forLoop ?_
    rw [hA]
    refine W.done _ _ _ hit fun h₁ tk₁ hk₁ => ?_
    refine seg_behind (hend _ _ ⟨rfl, rfl, h₁, tk₁, rfl, fun b o e1 e2 e3 => ?_⟩)
    have hbI : b ≠ I := by
      rcases hw.1 b o e1 e2 e3 with q | q
      · intro z
        have := Heap.lt_size q
        rw [z] at this
        exact absurd (Nat.lt_of_lt_of_le this hgs) (Nat.lt_irrefl _)
      · exact hnI _ q
    refine hk₁ b o (by simpa using hbI) ?_
    rcases hw.1 b o e1 e2 e3 with q | q
    · exact F.keep b o q
    · exact (Nx _ q).1
  | succ k ih =>
    intro i s₀ s gr nx mu hik hgn hgs Bg Xg Tg F hmu Nx hsub hnI hit hw hs
    obtain ⟨h0, tk0, rfl⟩ := hs
    have hgI : gr.get? I = none := Heap.get?_none_of_le hgs
    refine seg_forLoop ?_
    rw [hA]
    refine W.item i _ _ _ (by omega) hit fun v h₁ tk₁ hv hit₁ hk₁ => ?_
    obtain ⟨t, rfl⟩ := hv
    have F₁ : Fr gr Lg h₁ mu := ⟨F.ns.at' fun o e => hk₁ Lg o (by simpa using hLI) e, fun b o e => hk₁ b o (by
      intro z
      rw [List.mem_singleton.mp z, hgI] at e
      cases e) (F.keep b o e), F.above⟩
    have N₁ : News gr Lg h₁ nx := fun q hq => ⟨hk₁ _ _ (by simpa using hnI q hq) (Nx q hq).1, (Nx q hq).2⟩
    refine wpAny_assign_Name (wpAny_storeName_local hk2 (hk1 ▸ F₁.ns) (fun h₂ hn₂ hs₂ => ?_) hk3)
    rw [hk1] at hn₂ hs₂
    intro H'
    refine seg_execs_cons ?_
    refine seg_Expr_Yield hsp rfl hgu ?_ hco hint
    rw [hA]
    have F₂ : Fr gr Lg h₂ (fun y => if y = Str.ofString "index" then some (.int (0 + (i : Int) * 1) t) else mu y) := F₁.set hn₂ hs₂
    have N₂ : News gr Lg h₂ nx := N₁.set hs₂
    have hmu2 : MuOk g ps fr sc (fun y => if y = Str.ofString "index" then some (.int (0 + (i : Int) * 1) t) else mu y) := by
      obtain ⟨a1, a2, t3, a3⟩ := hmu
      refine ⟨?_, ?_, t3, ?_⟩
      · exact (if_neg (by decide)).trans a1
      · exact (if_neg (by decide)).trans a2
      · exact (if_neg (by decide)).trans a3
    have hit₂ : IsRangeIter h₂ I (0 + ((i + 1 : Nat) : Int) * 1) ((N : Int) - ((i + 1 : Nat) : Int)) 1 := (hs₂.2 I (Ne.symm hLI)).trans hit₁
    have N₂' : News gr Lg h₂ ((I, _) :: nx) := List.forall_mem_cons.mpr ⟨⟨hit₂, Ne.symm hLI, hgI⟩, N₂⟩
    refine no_err (hel gr ((I, _) :: nx) _ _ i t (by omega) Bg Xg Tg F₂ hmu2 (by simp) N₂' fun q hq => List.mem_cons_of_mem _ (hsub q hq)) ?_
    rintro v s' ⟨u, new, h₃, tk₃, rfl, rfl, F₃, N₃, hap, hd⟩
    intro kap hkap
    obtain ⟨oN, heN, hoN⟩ := ns_get F₃.ns
    have eI : h₃.get? I = some _ := (N₃ (I, _) (List.mem_append.mpr (.inr List.mem_cons_self))).1
    refine ⟨new.filter fun p => p.2.cls != .type "range_iterator", u, h₃, tk₃, oN, I, _, rfl, rfl, ?_, ?_, ?_, heN, eI, hI, fun z => z ⟨rfl, _, rfl⟩, fun s'' m F'' N'' => ?_⟩
    · intro q hq
      obtain ⟨hq, hc⟩ := List.mem_filter.mp hq
      have z := N₃ q (List.mem_append.mpr (.inl hq))
      refine ⟨z.1, ?_, fun e => by rw [e] at hc; exact absurd hc (by decide), ((hgn _).mp z.2.2).1⟩
      cases e : s₀.heap.get? q.1 with
      | none => rfl
      | some o =>
        rcases hw.2 q.1 o e with a1 | a1 | a1 | ⟨o', a1⟩
        · exact absurd a1 z.2.1
        · exact absurd a1.symm (hap q hq (I, _) List.mem_cons_self)
        · exact absurd z.2.2 a1
        · exact absurd rfl (hap q hq (q.1, o') (List.mem_cons_of_mem _ a1))
    · have e : N - 1 - k = i := by omega
      rw [e]
      exact datIn_filter hd
    · intro b o e1 e2 e3
      rcases hw.1 b o e1 e2 e3 with q | q
      · exact F₃.keep b o q
      · exact (N₃ _ (List.mem_append.mpr (.inr (List.mem_cons_of_mem _ q)))).1
    · refine hkap .none s'' ?_
      refine seg_execs_nil ?_
      have eN : s''.heap.get? Lg = some oN := (N'' (Lg, oN) (List.mem_cons_of_mem _ List.mem_cons_self)).1
      have eI'' := (N'' (I, _) List.mem_cons_self).1
      obtain ⟨g2, Fg, B2, X2, T2, hn2, hkk2⟩ := gen_ground (env := envL) (dp := dpx) (un := unx) (gd := gdx) hL B F'' X T hf hke hLg (hoN _ eN) hLg0
      refine seg_again rfl (ih (i + 1) s'' s'' g2 (others g2 s''.heap [Lg, I]) _ (by omega) hn2 (Nat.le_trans Fg.above (Nat.le_of_lt hI)) B2 X2 T2 Fg hmu2 (others_news (by simp)) (fun q hq => ?_) (fun q hq => ?_) eI'' ⟨fun b o e1 e2 e3 => ?_, fun b o e1 => ?_⟩ ⟨_, _, rfl⟩)
      · have z := N'' q (List.mem_cons_of_mem _ (List.mem_cons_of_mem _ hq))
        refine mem_others.mpr ⟨z.1, (hn2 _).mpr ⟨z.2.2, z.2.1⟩, ?_⟩
        simp [hIn q hq, hLn q hq]
      · obtain ⟨b, o⟩ := q
        have := (mem_others.mp hq).2.2
        simp at this
        exact this.2
      · cases e : g2.get? b with
        | none =>
          refine .inr (mem_others.mpr ⟨e1, e, ?_⟩)
          have : b ≠ I := by
            intro z
            rw [z] at e1
            have e1' := e1
            rw [eI''] at e1'
            cases e1'
            rcases e3 with e3 | e3
            · rw [z] at e3; exact absurd (Nat.lt_trans e3 hI) (Nat.lt_irrefl _)
            · exact e3 ⟨rfl, _, rfl⟩
          simp [e2, this]
        | some o' =>
          have := hkk2 b o' e
          rw [e1] at this
          exact .inl this.symm
      · by_cases z1 : b = Lg
        · exact .inl z1
        · by_cases z2 : b = I
          · exact .inr (.inl z2)
          · cases e : g2.get? b with
            | none => exact .inr (.inr (.inr ⟨o, mem_others.mpr ⟨e1, e, by simp [z1, z2]⟩⟩))
            | some o' => exact .inr (.inr (.inl (by simp)))
end
-- G4
theorem over_func {dp un : Nat} {gd : Option (List Code)} {cn q : Str} {cs sc : Scope} {L a L' f : Addr} {ccd cd : Value} {cl : List (Str × Addr)} {outer : List Env} {body : List Stmt} :
    Around.over (ktrTop dp un gd cn cs L a ccd cl outer).in1 (.func body (envX q sc L' f cd [])) [] = ktrTop (dp + 1) (un + 1 + 3) gd q sc L' f cd [] (envX cn cs L a ccd cl :: outer) := by
  cases gd <;> rfl
theorem over_loop {dp un : Nat} {gd : Option (List Code)} {cn q : Str} {cs sc : Scope} {L a L' f : Addr} {ccd cd : Value} {cl : List (Str × Addr)} {outer : List Env} {body body' : List Stmt} {t : Expr} {it : Value} {kk : Result → Sem PySem.Fin} {g : Bool} {l : List Value} {p : Pos} :
    Around.over (ktrTop dp un gd cn cs L a ccd cl outer).in1 (.forLoop t it body' [] (envX q sc L' f cd [])) [.ret kk none g l (.func body (envX q sc L' f cd [])) p []] = ktrTop (dp + 1) (un + 1 + 3) gd q sc L' f cd [] (envX cn cs L a ccd cl :: outer) := by
  cases gd <;> rfl
def genObj (g : Nat) (n q : Str) (t u : Tok) : Obj := { cls := .type "generator", data := .fields #[.int g 0, .str n t, .str q u] }
section
variable {prog : Program} {w : World} {A A₀ : Around} {s : Shared} {K : Frag} {p : Program} {loose : List Str} {mean : ExcName → Option Value} {mg mb : Str → Option Value} {h₀ base : Heap} {L : Addr} {m : Str → Option Value} {news : List (Addr × Obj)}
  {R : Result → Shared → Prop} {name qual : Str} {params : Arguments} {body : List Stmt} {scope : Scope} {dV kV doc pm cdv ct oc : Value} {an od : Option Addr} {osl : Array (Option Value)} {f : Addr} {args : Args} {binds : List (Str × Value)}
theorem call_gen (F : Fr h₀ L s.heap m) (X₀ : K.In h₀) (N : News h₀ L s.heap news) (T : Top p loose mean mg mb h₀)
    (ho : K.lookup f = some ⟨oc, od, .func (fnOf name qual params body scope dV kV doc pm an cdv ct), osl⟩) (hcd : codeIn K cdv qual = true) (hroom : A.depth < recursionLimit)
    (hbind : BindsTo s (fnOf name qual params body scope dV kV doc pm an cdv ct) args binds) (hloc : ∀ y ∈ binds, scope.names.lookup y.1 = some .local)
    (hco : scope.isCoroutine = false) (hgen : scope.isGenerator = true) (hk : scope.kind = .function) (hcell : ∀ x ∈ scope.names, x.2 ≠ .cell)
    (h : ∀ G Lg oN h' t u tk', Fr h₀ L h' m → News h₀ L h' ((G, genObj s.gens.size name qual t u) :: (Lg, oN) :: news) → L < Lg → Lg < G → (∀ p ∈ news, p.1 < Lg) → (∀ hh : Heap, hh.get? Lg = some oN → hh.Ns Lg (fun y => binds.reverse.lookup y)) →
      R (.ok (.ret (.ref G))) { s with heap := h', gens := s.gens.push (.fresh (.func body (envX qual scope Lg f cdv []))), toks := tk' }) :
    codeAny (model prog w) A (.call (.ref f) args) R s := by
  have XN := X₀.keeps F.keep
  refine codeAny_call_generator hroom (XN _ _ ho) rfl hco hgen rfl (codeRec_of XN hcd) (hbind _ _ _ _ ?_)
  refine wpAny_newFunctionEnv hcell hloc (fun h₁ hns hsb => ⟨(T.nolimit.keeps F.keep).fresh _ hsb, ?_⟩) hk
  have k1 : ∀ b o, s.heap.get? b = some o → h₁.get? b = some o := fun b o e => hsb.extBut b o (Nat.ne_of_lt (Heap.lt_size e)) (Heap.get?_push_of_some _ e)
  obtain ⟨oN, heN, hoN⟩ := ns_get hns
  have hGL : s.heap.objs.size < h₁.objs.size := hns.lt
  have F₁ := F.keeps k1
  have fresh : ∀ b, s.heap.objs.size ≤ b → h₀.get? b = none := fun b hb => by
    cases q : h₀.get? b with
    | none => rfl
    | some o => exact absurd (Nat.lt_of_lt_of_le (Heap.lt_size (F.keep _ _ q)) hb) (Nat.lt_irrefl _)
  refine h h₁.objs.size s.heap.objs.size oN _ _ _ _ (F₁.push _) (List.forall_mem_cons.mpr ⟨⟨Heap.get?_push_size _ rfl, Nat.ne_of_gt (Nat.lt_trans F.ns.lt hGL), fresh _ (Nat.le_of_lt hGL)⟩, List.forall_mem_cons.mpr ⟨⟨Heap.get?_push_of_some _ heN, Nat.ne_of_gt F.ns.lt, fresh _ (Nat.le_refl _)⟩, fun q hq => ⟨Heap.get?_push_of_some _ (k1 _ _ (N q hq).1), (N q hq).2⟩⟩⟩) F.ns.lt hGL (fun q hq => Heap.lt_size (N q hq).1) hoN
end
-- G5
section
variable {w : World} {mean : ExcName → Option Value} {mg mb : Str → Option Value} {dp un : Nat} {gd : Option (List Code)} {cn : Str} {cs : Scope} {a : Addr} {ccd : Value} {cl : List (Str × Addr)} {outer : List Env} {A₀ : Around} {base h₀ : Heap} {L : Addr} {m : Str → Option Value} {s : Shared} {Q E : Value → Shared → Prop} {news : List (Addr × Obj)}

set_option maxHeartbeats 4000000 in
theorem units_spec {fr sc : Addr} {g : Geo} {ps : List Int} {Nn : Nat} (B : Below A₀ base outer h₀) (F : Fr h₀ L s.heap m) (X : (hd.heap_1 w.params).In h₀) (N : News h₀ L s.heap news) (T : Top lview (looseW lview []) mean mg mb h₀) (hk : cs.kind = .function)
    (hdp : dp + 12 < recursionLimit) (hun : un + 96 < cLine)
    (hL : L = h₀.objs.size)
    (hf : FrameIn w news fr g) (hg : g.Ok) (hs : ScanIn w news sc ps) (hp : PlacesOk g.comps.length ps) (hN : (Nn : Int) = uA g ps * uD g ps)
    (hret : ∀ G Lg oN nm qn t u code h' tk', Fr h₀ L h' m → News h₀ L h' ((G, genObj s.gens.size nm qn t u) :: (Lg, oN) :: news) → L < Lg → Lg < G → (∀ p ∈ news, p.1 < Lg) →
      (∀ (s'' : Shared) m', Fr h₀ L s''.heap m' → News h₀ L s''.heap ((Lg, oN) :: news) → (GenState.fresh code).Goes (model PySem.Challenge.rw_pf0231_01.row.prog w) (ktrTop dp un gd cn cs L a ccd cl outer).in1 (RU Lg) (YU Nn h₀ L Lg news g ps) Nn (.send .none) s'') →
      Q (.ref G) { s with heap := h', gens := s.gens.push (.fresh code), toks := tk' }) :
    wpAny (model PySem.Challenge.rw_pf0231_01.row.prog w) (ktrTop dp un gd cn cs L a ccd cl outer) (call (.ref 49) [.ref fr, .ref sc]) Q E s := by
  w_on
  have hz : PySem.Challenge.rw_pf0231_01 = PySem.Challenge.rw_pf0231_01 ∧ hd.heap_1 = hd.heap_1 := by
    k_fill
    exact ⟨rfl, rfl⟩
  clear hz
  refine wpAny_call ?_
  k_dflt (refine' call_gen ?k2 ?k3 ?k4 ?k5 ?k6 ?k7 ?k8 ?k9 ?kB ?c2 ?cg ?c4 ?c5 ?_; (case k2 => k_asm); (case k3 => k_asm); (case k4 => k_asm); (case k5 => k_asm); (case k6 => k_is); (case k7 => k_is); (case k8 => ktr_room); (case k9 => exact BindsTo.of_eq rfl); (case c5 => decide); (case kB => exact locs rfl); (case c2 => exact rfl); (case cg => exact rfl); (case c4 => exact rfl); k_whole; intro G' Lg' oN' h' t' u' tk' F' N' lg1 lg2 lg3 hoN; (try dsimp only); (try k_fold))
  refine hret _ _ _ _ _ _ _ _ _ _ F' N' lg1 lg2 lg3 ?_
  clear F' N'
  intro s'' m' F'' N''
  refine ⟨rfl, ?_⟩
  have heN := N'' (Lg', oN') List.mem_cons_self
  obtain ⟨g2, Fg, B2, X2, T2, hn2, hkk2⟩ := gen_ground (env := envX cn cs L a ccd cl) (dp := dp + 1) (un := un + 1 + 3) (gd := gd) hL B F'' X T rfl hk lg1 (hoN _ heN.1) heN.2.2
  obtain ⟨nx, hnx⟩ : ∃ nx, nx = others g2 s''.heap [Lg'] := ⟨_, rfl⟩
  have Nx : News g2 Lg' s''.heap nx := hnx ▸ others_news (by simp)
  have hsub : ∀ p ∈ news, p ∈ nx := fun p hp => by
    have z := N'' p (List.mem_cons_of_mem _ hp)
    rw [hnx]
    refine mem_others.mpr ⟨z.1, (hn2 _).mpr ⟨z.2.2, z.2.1⟩, ?_⟩
    simpa using Nat.ne_of_lt (lg3 p hp)
  have hfx := hf.mono hsub
  have hsx := hs.mono hsub
  have hgs : g2.objs.size ≤ Lg' := Fg.above
  have hold : ∀ b o, s''.heap.get? b = some o → b ≠ Lg' → g2.get? b = some o ∨ (b, o) ∈ nx := fun b o e1 e2 => by
    cases e : g2.get? b with
    | none => exact .inr (hnx ▸ mem_others.mpr ⟨e1, e, by simpa using e2⟩)
    | some o' =>
      have := hkk2 b o' e
      rw [e1] at this
      exact .inl this.symm
  have hbN := Heap.lt_size heN.1
  clear hret
  have hA := uA_bounds hg hp
  have hD := uD_bounds hg hp
  have hbb := mul_bounds hA hD
  refine seg_func (seg_execs_cons (seg_wrap (no_err (Q := fun f s' => Stop (∃ h tk t, f = .next ∧ s' = { s'' with heap := h, toks := tk } ∧ Fr g2 Lg' h (fun y => if y = Str.ofString "across" then some (.int (uA g ps) t) else List.lookup y [(Str.ofString "scan", Value.ref sc), (Str.ofString "frame", Value.ref fr)]) ∧ News g2 Lg' h nx)) ?w1 ?k1)))
  case w1 =>
    rw [over_func]
    k_steps
    unfold Stop
    exact ⟨_, _, _, rfl, rfl, by assumption, by assumption⟩
  case k1 =>
    intro f s1 q
    obtain ⟨h1, tk1, t1, rfl, rfl, F1, N1⟩ := q
    refine seg_execs_cons (seg_For (fun _ => rfl) rfl ?_)
    rw [over_func]
    refine no_err (Q := fun xv s₁ => Stop (∃ h tk r rt ru rv, xv = .ref r ∧ s₁ = { s'' with heap := h, toks := tk } ∧ IsRange h r 0 (uA g ps * uD g ps) 1 rt ru rv ∧ Fr g2 Lg' h (fun y => if y = Str.ofString "across" then some (.int (uA g ps) t1) else List.lookup y [(Str.ofString "scan", Value.ref sc), (Str.ofString "frame", Value.ref fr)]) ∧ News g2 Lg' h nx)) ?w2 ?k2
    case w2 =>
      k_steps
      unfold Stop
      rename_i hR hF hN hK
      exact ⟨_, _, _, _, _, _, rfl, rfl, hR, hF, hN⟩
    case k2 =>
      intro xv s2 q
      obtain ⟨h2, tk2, r, rt, ru, rv, rfl, rfl, hR, F2, N2⟩ := q
      refine wpAny_pyIter_range hR (small_one (by omega) (by omega) (by omega) (by omega)) ?_
      intro kk hkk lx px
      have hLs : Lg' < h2.objs.size := F2.ns.lt
      have hgI : g2.objs.size ≤ h2.objs.size := Nat.le_trans hgs (Nat.le_of_lt hLs)
      have hNN : Builtin.Range.rangeSize 0 (uA g ps * uD g ps) 1 = (Nn : Int) := by rw [rangeSize_toNat (by omega)]; omega
      refine seg_uloop (A' := ktrTop (dp + 1) (un + 1 + 3) gd (Str.ofString "units") _ Lg' 49 (Value.ref 48) [] (envX cn cs L a ccd cl :: outer)) (envL := envX cn cs L a ccd cl) (dpx := dp + 1) (unx := un + 1 + 3) (gdx := gd) (fr := fr) (sc := sc) (mg := mg) (mb := mb) (mean := mean)
        hL lg1 heN.2.2 B X T rfl hk over_loop rfl rfl rfl rfl rfl rfl rfl rfl ?hend ?hel hLs (fun q hq => Nat.ne_of_lt (Nat.lt_trans (lg3 q hq) hLs)) (fun q hq => Nat.ne_of_lt (lg3 q hq)) Nn 0 s'' _ g2 nx _ (by omega) hn2 hgI B2 X2 T2 (F2.push _) ⟨rfl, rfl, _, rfl⟩
        (fun q hq => ⟨Heap.get?_push_of_some _ (N2 q hq).1, (N2 q hq).2⟩) hsub (fun q hq => Nat.ne_of_lt (Heap.lt_size (N2 q hq).1)) ?hit ⟨fun b o e1 e2 _ => hold b o e1 e2, fun b o e1 => ?hw⟩ ⟨_, _, rfl⟩
      case hit =>
        show Heap.get? _ _ = some _
        rw [hNN]
        simpa using Heap.get?_push_size h2 (o := { cls := .type "range_iterator", data := .fields #[rawInt 0, rawInt (Nn : Int), rawInt 1] }) rfl
      case hw =>
        by_cases z : b = Lg'
        · exact .inl z
        · rcases hold b o e1 z with q | q
          · exact .inr (.inr (.inl (by rw [q]; simp)))
          · exact .inr (.inr (.inr ⟨o, q⟩))
      case hend =>
        intro s0 s3 hr
        rw [hkk]
        exact seg_end (.ok (.ret .none)) hr
      case hel =>
        intro gr nx3 s3 mu i t hi B3 X3 T3 F3 hmu hidx N3 hsub3
        obtain ⟨hm1, hm2, ta, hm3⟩ := hmu
        have hf3 := hf.mono hsub3
        have hs3 := hs.mono hsub3
        have hnb := no_bounds (i := (i : Int)) (by omega) hA hD.2 (by omega)
        have hx := hnb.1
        have hy := hnb.2
        have hi2 : (i : Int) < 100000 := by omega
        have hmm : mu = fun y => if y = Str.ofString "index" then some (.int (i : Int) t) else if y = Str.ofString "across" then some (.int (uA g ps) ta) else if y = Str.ofString "scan" then some (.ref sc) else if y = Str.ofString "frame" then some (.ref fr) else mu y := by
          funext y
          by_cases e1 : y = Str.ofString "index"
          · rw [if_pos e1, e1]; exact hidx
          · rw [if_neg e1]
            by_cases e2 : y = Str.ofString "across"
            · rw [if_pos e2, e2]; exact hm3
            · rw [if_neg e2]
              by_cases e3 : y = Str.ofString "scan"
              · rw [if_pos e3, e3]; exact hm2
              · rw [if_neg e3]
                by_cases e4 : y = Str.ofString "frame"
                · rw [if_pos e4, e4]; exact hm1
                · rw [if_neg e4]
        obtain ⟨mu0, hmu0⟩ : ∃ mu0, mu0 = mu := ⟨_, rfl⟩
        rw [← hmu0] at hmm
        rw [hmm] at hmu0
        subst hmu0
        clear hm1 hm2 hm3 hidx hmm
        refine no_err (Q := fun v s' => Stop _) ?w3 (fun _ _ h => h)
        case w3 =>
          k_steps
          unfold Stop
          rename_i r' new' h' tk' F' N' ap' di'
          exact ⟨r', new', h', tk', rfl, rfl, F', N', ap', di'⟩
end
-- G6
/-- a ledger that a segment of the generator leaves as it is -/
def RestOk (Lg : Addr) (l : List (Addr × Obj)) : Prop := ∀ p ∈ l, p.1 ≠ Lg ∧ (p.1 < Lg ∨ NotIt p.2)
section
variable {prog : Program} {w : World} {A : Around} {E : Value → Shared → Prop} {s : Shared} {p : Program} {loose : List Str} {mean : ExcName → Option Value} {mg mb : Str → Option Value} {h₀ : Heap} {L Lg G : Addr} {m : Str → Option Value} {news st rest : List (Addr × Obj)} {g : Geo} {ps : List Int} {N : Nat} {gs : GenState}
/-- a suspended generator goes on: k items are left -/
def UGoes (prog : Program) (w : World) (A : Around) (N : Nat) (h₀ : Heap) (L Lg : Addr) (news : List (Addr × Obj)) (g : Geo) (ps : List Int) (gs : GenState) (st : List (Addr × Obj)) (k : Nat) : Prop :=
  ∀ (s'' : Shared) m, Fr h₀ L s''.heap m → News h₀ L s''.heap (st ++ news) → gs.Goes (model prog w) A.in1 (RU Lg) (YU N h₀ L Lg news g ps) k (.send .none) s''
theorem keepg_fr {h h' : Heap} (hL : L = h₀.objs.size) (hLg : L < Lg) (F : Fr h₀ L h m) (k : Keepg Lg h h') : Fr h₀ L h' m :=
  ⟨F.ns.at' fun o e => k L o e (Nat.ne_of_lt hLg) (.inl hLg), fun b o e => by
    have hb : b < Lg := Nat.lt_trans (hL ▸ Heap.lt_size e) hLg
    exact k b o (F.keep b o e) (Nat.ne_of_lt hb) (.inl hb), F.above⟩
theorem keepg_news {h h' : Heap} (N : News h₀ L h rest) (hr : RestOk Lg rest) (k : Keepg Lg h h') : News h₀ L h' rest := fun q hq => ⟨k _ _ (N q hq).1 (hr q hq).1 (hr q hq).2, (N q hq).2⟩
theorem gen_item {nm qn : Str} {t u : Tok} {k : Nat} {Q : Option Value → Shared → Prop} (hh : A.handled = none) (hroom : A.depth < recursionLimit) (hL : L = h₀.objs.size) (hLg : L < Lg) (T : Top p loose mean mg mb h₀) (hgens : s.gens = #[gs]) (F : Fr h₀ L s.heap m) (Ns : News h₀ L s.heap (st ++ rest))
    (hG : (G, genObj 0 nm qn t u) ∈ rest) (hr : RestOk Lg rest) (hst : ∃ o, (Lg, o) ∈ st) (hn : ∀ q ∈ news, q ∈ rest) (hgo : UGoes prog w A N h₀ L Lg news g ps gs st (k + 1))
    (hQ : ∀ new v h' tk gs' oN I oI, Lg < I → Fr h₀ L h' m → News h₀ L h' ((I, oI) :: (Lg, oN) :: (new ++ rest)) → Apart new rest → RestOk Lg (new ++ rest) → (∀ q ∈ new ++ rest, q.1 ≠ I) → DatIn new (.ref v) (.list ((unitNo g ps ((N - 1 - k : Nat) : Int)).map blkD)) →
      UGoes prog w A N h₀ L Lg news g ps gs' [(I, oI), (Lg, oN)] k → Q (some (.ref v)) { s with heap := h', gens := #[gs'], toks := tk }) :
    wpAny (model prog w) A (pyNext (.ref G)) Q E s := by
  obtain ⟨hp, ge, d, tk0, os⟩ := s
  obtain rfl : ge = #[gs] := hgens
  have Nr : News h₀ L hp rest := fun q hq => Ns q (List.mem_append.mpr (.inr hq))
  have Nst : News h₀ L hp st := fun q hq => Ns q (List.mem_append.mpr (.inl hq))
  obtain ⟨oL0, hL0⟩ := hst
  refine wpAny_pyNext_gen (g := 0) (n := k + 1) (gs := gs) (P := fun n s₀ s₁ => n = 0 ∧ ∃ h' tk, s₁ = { s₀ with heap := h', toks := tk } ∧ Keepg Lg s₀.heap h') (Y := YU N h₀ L Lg news g ps) hh (T.nolimit.keeps F.keep) hroom ⟨_, _, _, (Nr _ hG).1, rfl, rfl, rfl⟩ rfl
    (hgo _ m F fun q hq => ?_) ?_ ?_
  · rcases List.mem_append.mp hq with hq | hq
    · exact Nst q hq
    · exact Nr q (hn q hq)
  · rintro v s₁ gs' ⟨new, u', h', tk, oN, I, oI, rfl, rfl, hnew, hd, hk, eN, eI, hI, hIt, hkap⟩
    have F' : Fr h₀ L h' m := keepg_fr hL hLg F hk
    have N' : News h₀ L h' rest := keepg_news Nr hr hk
    have hLI : L < I := Nat.lt_trans hLg hI
    have none0 : ∀ b, L ≤ b → h₀.get? b = none := fun b hb => Heap.get?_none_of_le (hL ▸ hb)
    obtain ⟨oL, _, _, eL, _⟩ := F.ns
    have hnL : ∀ q ∈ new, q.1 ≠ L := fun q hq e => by
      have := (hnew q hq).2.1
      rw [e] at this
      cases (this.symm.trans eL : (none : Option Obj) = some oL)
    have hap : Apart new rest := fun q hq r hr' e => by
      have z := (hnew q hq).2.1
      rw [← e] at z
      cases (z.symm.trans (Nr r hr').1 : (none : Option Obj) = some r.2)
    have hrn : RestOk Lg (new ++ rest) := fun q hq => by
      rcases List.mem_append.mp hq with hq | hq
      · refine ⟨fun e => ?_, .inr (.cls (hnew q hq).2.2.1)⟩
        have z := (hnew q hq).2.1
        rw [e] at z
        cases (z.symm.trans (Nst _ hL0).1 : (none : Option Obj) = some oL0)
      · exact hr q hq
    have NN : News h₀ L h' (new ++ rest) := fun q hq => by
      rcases List.mem_append.mp hq with hq | hq
      · exact ⟨(hnew q hq).1, hnL q hq, (hnew q hq).2.2.2⟩
      · exact N' q hq
    refine hQ new u' h' tk gs' oN I oI hI F' (List.forall_mem_cons.mpr ⟨⟨eI, Nat.ne_of_gt hLI, none0 _ (Nat.le_of_lt hLI)⟩, List.forall_mem_cons.mpr ⟨⟨eN, Nat.ne_of_gt hLg, none0 _ (Nat.le_of_lt hLg)⟩, NN⟩⟩) hap hrn (fun q hq e => ?_) hd fun s'' m' F'' N'' => hkap s'' m' F'' N''
    have z := (NN q hq).1
    rw [e, eI] at z
    cases z
    rcases (hrn q hq).2 with y | y
    · rw [e] at y
      exact absurd (Nat.lt_trans y hI) (Nat.lt_irrefl _)
    · exact hIt y
  · rintro s₁ ⟨h0, _⟩
    exact absurd h0 (Nat.succ_ne_zero k)
theorem gen_done {nm qn : Str} {t u : Tok} {Q : Option Value → Shared → Prop} (hh : A.handled = none) (hroom : A.depth < recursionLimit) (hL : L = h₀.objs.size) (hLg : L < Lg) (T : Top p loose mean mg mb h₀) (hgens : s.gens = #[gs]) (F : Fr h₀ L s.heap m) (Ns : News h₀ L s.heap (st ++ rest))
    (hG : (G, genObj 0 nm qn t u) ∈ rest) (hr : RestOk Lg rest) (hn : ∀ q ∈ news, q ∈ rest) (hgo : UGoes prog w A N h₀ L Lg news g ps gs st 0)
    (hQ : ∀ h' tk, Fr h₀ L h' m → News h₀ L h' rest → Q none { s with heap := h', gens := #[.finished], toks := tk }) :
    wpAny (model prog w) A (pyNext (.ref G)) Q E s := by
  obtain ⟨hp, ge, d, tk0, os⟩ := s
  obtain rfl : ge = #[gs] := hgens
  have Nr : News h₀ L hp rest := fun q hq => Ns q (List.mem_append.mpr (.inr hq))
  have Nst : News h₀ L hp st := fun q hq => Ns q (List.mem_append.mpr (.inl hq))
  refine wpAny_pyNext_gen (g := 0) (n := 0) (gs := gs) (P := fun n s₀ s₁ => n = 0 ∧ ∃ h' tk, s₁ = { s₀ with heap := h', toks := tk } ∧ Keepg Lg s₀.heap h') (Y := YU N h₀ L Lg news g ps) hh (T.nolimit.keeps F.keep) hroom ⟨_, _, _, (Nr _ hG).1, rfl, rfl, rfl⟩ rfl
    (hgo _ m F fun q hq => ?_) ?_ ?_
  · rcases List.mem_append.mp hq with hq | hq
    · exact Nst q hq
    · exact Nr q (hn q hq)
  · rintro v s₁ gs' ⟨new, u', h', tk, oN, I, oI, rfl, rfl, hnew, hd, hk, eN, eI, hI, hIt, hkap⟩
    have hLI : L < I := Nat.lt_trans hLg hI
    have none0 : ∀ b, L ≤ b → h₀.get? b = none := fun b hb => Heap.get?_none_of_le (hL ▸ hb)
    exact (hkap { heap := h', gens := #[gs], drawn := d, toks := tk0, os := os } m (keepg_fr hL hLg F hk) (List.forall_mem_cons.mpr ⟨⟨eI, Nat.ne_of_gt hLI, none0 _ (Nat.le_of_lt hLI)⟩, List.forall_mem_cons.mpr ⟨⟨eN, Nat.ne_of_gt hLg, none0 _ (Nat.le_of_lt hLg)⟩, fun q hq => keepg_news Nr hr hk q (hn q hq)⟩⟩)).elim
  · rintro s₁ ⟨_, h', tk, rfl, hk⟩ h2 hk2
    exact hQ h2 _ ((keepg_fr hL hLg F hk).keeps hk2) ((keepg_news Nr hr hk).grown hk2)
end
-- G7
def unitD (g : Geo) (ps : List Int) (i : Nat) : Dat := .list ((unitNo g ps (i : Int)).map blkD)
def unitsD (g : Geo) (ps : List Int) (n : Nat) : List Dat := (List.range n).map (unitD g ps)
theorem unitsD_succ {g : Geo} {ps : List Int} {i : Nat} : unitsD g ps (i + 1) = unitsD g ps i ++ [unitD g ps i] := by
  simp [unitsD, List.range_succ]
theorem NsObj.notIt {o : Obj} {m : Str → Option Value} (x : LCg.NsObj o m) : NotIt o := fun y => by
  obtain ⟨es, ep, hd, _⟩ := x
  obtain ⟨_, vs, hv⟩ := y
  rw [hd] at hv
  cases hv
section
variable {prog : Program} {w : World} {A : Around} {E : Value → Shared → Prop} {s : Shared} {p : Program} {loose : List Str} {mean : ExcName → Option Value} {mg mb : Str → Option Value} {h₀ : Heap} {L Lg G : Addr} {m : Str → Option Value} {news rest : List (Addr × Obj)} {g : Geo} {ps : List Int} {N : Nat} {env : Env}
theorem told_block {elt iter : Expr} {x : Str} {px : Pos} {scope : Scope} {cl : List (Str × Addr)} {pos : Pos} {s₂ : Shared} {gs₀ : GenState} {oN₀ : Obj} {nm qn : Str} {t u : Tok}
    {RR : Value → Addr → Result → Shared → Prop} (hh : A.handled = none) (hroom : A.depth < recursionLimit) (hL : L = h₀.objs.size) (hLg : L < Lg) (T : Top p loose mean mg mb h₀) (hN : N ≤ 100000)
    (hcell : ∀ y ∈ scope.names, y.2 ≠ .cell) (hkind : scope.kind = .function) (hx : scope.names.lookup x = some .local)
    (hgens : s₂.gens = #[gs₀]) (F : Fr h₀ L s₂.heap m) (Ns : News h₀ L s₂.heap ((Lg, oN₀) :: rest)) (hG : (G, genObj 0 nm qn t u) ∈ rest) (hr : RestOk Lg rest) (hn : ∀ q ∈ news, q ∈ rest) (hgo : UGoes prog w A N h₀ L Lg news g ps gs₀ [(Lg, oN₀)] N)
    (hstep : ∀ (i : Nat) (v : Addr) (ys : List Value) (D C : Addr) (oC : Obj) (m₂ : Str → Option Value) (s₃ : Shared) (l pers : List (Addr × Obj)) (E' : Value → Shared → Prop), i < N → DatIn pers (.ref v) (unitD g ps i) → (∀ q ∈ pers, q ∈ l) → LCg.NsObj oC m₂ → m₂ x = some (.ref v) → Fr h₀ L s₃.heap m →
      News h₀ L s₃.heap ((C, oC) :: (D, LCg.lst ys) :: l) → (∀ q ∈ l, q.1 ≠ C ∧ q.1 ≠ D) → C ≠ D →
      wpAny (model prog w) A (eval elt (compEnvC scope cl C env)) (fun y s' => ∃ new2 h' tk', s' = { s₃ with heap := h', toks := tk' } ∧ Fr h₀ L h' m ∧ News h₀ L h' ((C, oC) :: (D, LCg.lst ys) :: (new2 ++ l)) ∧ Apart new2 ((C, oC) :: (D, LCg.lst ys) :: l) ∧
        (∀ q ∈ new2, NotIt q.2) ∧ DatIn (new2 ++ pers) y (unitD g ps i)) E' s₃)
    (hRR : ∀ D C h tk m' ys made, Fr h₀ L h m → News h₀ L h ((D, LCg.lst ys) :: (made ++ rest)) → (∀ q ∈ made ++ rest, q.1 ≠ C ∧ q.1 ≠ D) → h.Ns C m' → h₀.get? C = none → C ≠ L → D ≠ L → C ≠ D → Apart made rest → DatAll made ys (unitsD g ps N) →
      RR (.ref D) C (.ok .next) { s₂ with heap := h, gens := #[.finished], toks := tk }) :
    wpAny (model prog w) A (newList []) (fun acc s₃ => wpAny (model prog w) A (newFunctionEnv scope env.globals cl [] env.qual none .none (some env)) (fun cenv s₄ =>
      codeAny (model prog w) A (.compStart (.ListComp elt [⟨.Name x px, iter, [], 0⟩] scope pos) 0 (.ref G) acc { cenv with scope := relabel scope env }) (RR acc cenv.locals) s₄) E s₃) E s₂ := by
  refine wpAny_newObj_type (wpAny_newFunctionEnv hcell (by intro y hy; simp at hy) (fun h₁ hns₁ hsb₁ => ?_) hkind)
  dsimp only at hns₁ hsb₁ ⊢
  generalize hH2 : s₂.heap.push { cls := .type "list", dict := none, data := .seq ([] : List Value).toArray } = H2 at hns₁ hsb₁ ⊢
  have hC : H2.objs.size = s₂.heap.objs.size + 1 := by rw [← hH2, Heap.size_push]
  have hDC : s₂.heap.objs.size ≠ H2.objs.size := by rw [hC]; exact Nat.ne_of_lt (Nat.lt_succ_self _)
  have below : ∀ b, b < s₂.heap.objs.size → b ≠ H2.objs.size ∧ b ≠ s₂.heap.objs.size := fun b hb => ⟨by rw [hC]; exact Nat.ne_of_lt (Nat.lt_succ_of_lt hb), Nat.ne_of_lt hb⟩
  have old : ∀ b o, s₂.heap.get? b = some o → h₁.get? b = some o := fun b o e => hsb₁.extBut b o (below b (Heap.lt_size e)).1 (Heap.get?_push_of_some _ (hH2 ▸ Heap.get?_push_of_some _ e))
  have hacc : h₁.get? s₂.heap.objs.size = some (LCg.lst []) := hsb₁.extBut _ _ hDC (Heap.get?_push_of_some _ (hH2 ▸ Heap.get?_push_size _ rfl))
  have fresh₀ : ∀ a, s₂.heap.objs.size ≤ a → h₀.get? a = none := fun a ha => by
    cases e : h₀.get? a with
    | none => rfl
    | some o' => exact absurd (Nat.lt_of_lt_of_le (Heap.lt_size (F.keep a o' e)) ha) (Nat.lt_irrefl _)
  have hD₀ : h₀.get? s₂.heap.objs.size = none := fresh₀ _ (Nat.le_refl _)
  have hC₀ : h₀.get? H2.objs.size = none := fresh₀ _ (by rw [hC]; exact Nat.le_succ _)
  have hLlt : L < s₂.heap.objs.size := F.ns.lt
  have hDL : s₂.heap.objs.size ≠ L := Ne.symm (below L hLlt).2
  have hCL : H2.objs.size ≠ L := Ne.symm (below L hLlt).1
  have hLgs : Lg < s₂.heap.objs.size := Heap.lt_size (Ns (Lg, oN₀) List.mem_cons_self).1
  have hCg : H2.objs.size ≠ Lg := Ne.symm (below Lg hLgs).1
  have hDg : s₂.heap.objs.size ≠ Lg := Ne.symm (below Lg hLgs).2
  have off₀ : ∀ q ∈ rest, q.1 ≠ H2.objs.size ∧ q.1 ≠ s₂.heap.objs.size := fun q hq => below _ (Heap.lt_size (Ns q (List.mem_cons_of_mem _ hq)).1)
  obtain ⟨oC₁, eC₁, hoC₁⟩ := LCg.ns_obj hns₁
  have loop : ∀ s₃ : Shared, s₃ = { s₂ with heap := h₁, toks := s₂.toks + ([] : List (Str × Value)).length } →
      codeAny (model prog w) A (.compLoop (.ListComp elt [⟨.Name x px, iter, [], 0⟩] scope pos) 0 (.ref G) (.ref s₂.heap.objs.size) (compEnvC scope cl H2.objs.size env))
        (RR (.ref s₂.heap.objs.size) H2.objs.size) s₃ := by
    rintro s₃ rfl
    refine codeAny_compLoop_tests
      (fun k s' => ∃ h' tk i ys gs st oC m' made, s' = { s₂ with heap := h', gens := #[gs], toks := tk } ∧ i ≤ N ∧ k = N + 1 - i ∧ ys.length = i ∧ Fr h₀ L h' m ∧ LCg.NsObj oC m' ∧ News h₀ L h' (st ++ ((H2.objs.size, oC) :: (s₂.heap.objs.size, LCg.lst ys) :: (made ++ rest))) ∧
        (∃ o, (Lg, o) ∈ st) ∧ (∀ q ∈ st, q.1 ≠ H2.objs.size ∧ q.1 ≠ s₂.heap.objs.size) ∧ (∀ q ∈ made ++ rest, q.1 ≠ H2.objs.size ∧ q.1 ≠ s₂.heap.objs.size) ∧ RestOk Lg (made ++ rest) ∧ UGoes prog w A N h₀ L Lg news g ps gs st (N - i) ∧
        DatAll made ys (unitsD g ps i) ∧ Apart made rest) ?_ (N + 1)
      ⟨h₁, _, 0, [], gs₀, [(Lg, oN₀)], oC₁, _, [], by rw [← hgens], Nat.zero_le _, rfl, rfl, F.keeps old, hoC₁, ?_, ⟨oN₀, List.mem_cons_self⟩, ?_, off₀, hr, hgo, .nil, fun _ h => nomatch h⟩
    · rintro k s' ⟨h', tk, i, ys, gs, st, oC, m', made, rfl, hi, rfl, hyl, F', hoC, N', hLst, hstoff, hoff, hrk, hgo', hda, hap⟩
      have hrk' : RestOk Lg ((H2.objs.size, oC) :: (s₂.heap.objs.size, LCg.lst ys) :: (made ++ rest)) := List.forall_mem_cons.mpr ⟨⟨hCg, .inr (NsObj.notIt hoC)⟩, List.forall_mem_cons.mpr ⟨⟨hDg, .inr (.cls (by show Value.type "list" ≠ Value.type "range_iterator"; decide))⟩, hrk⟩⟩
      have hG' : (G, genObj 0 nm qn t u) ∈ (H2.objs.size, oC) :: (s₂.heap.objs.size, LCg.lst ys) :: (made ++ rest) := List.mem_cons_of_mem _ (List.mem_cons_of_mem _ (List.mem_append.mpr (.inr hG)))
      have hn' : ∀ q ∈ news, q ∈ (H2.objs.size, oC) :: (s₂.heap.objs.size, LCg.lst ys) :: (made ++ rest) := fun q hq => List.mem_cons_of_mem _ (List.mem_cons_of_mem _ (List.mem_append.mpr (.inr (hn q hq))))
      by_cases hlt : i < N
      · obtain ⟨j, hj⟩ : ∃ j, N - i = j + 1 := ⟨N - i - 1, by omega⟩
        rw [hj] at hgo'
        refine gen_item hh hroom hL hLg T rfl F' N' hG' hrk' hLst hn' hgo' fun new v h₂ tk₂ gs' oN I oI hI F₂ N₂ ap₂ hrk₂ hnI hd₂ hgo₂ => ?_
        rw [show N - 1 - j = i by omega] at hd₂
        have hnewC : ∀ q ∈ new, q.1 ≠ H2.objs.size ∧ q.1 ≠ s₂.heap.objs.size := fun q hq => ⟨fun e => ap₂ q hq _ List.mem_cons_self e.symm, fun e => ap₂ q hq _ (List.mem_cons_of_mem _ List.mem_cons_self) e.symm⟩
        have hCI : H2.objs.size ≠ I := hnI (H2.objs.size, oC) (List.mem_append.mpr (.inr List.mem_cons_self))
        have hDI : s₂.heap.objs.size ≠ I := hnI (s₂.heap.objs.size, LCg.lst ys) (List.mem_append.mpr (.inr (List.mem_cons_of_mem _ List.mem_cons_self)))
        have m2 : ∀ q ∈ new ++ ((H2.objs.size, oC) :: (s₂.heap.objs.size, LCg.lst ys) :: (made ++ rest)), q ∈ (I, oI) :: (Lg, oN) :: (new ++ ((H2.objs.size, oC) :: (s₂.heap.objs.size, LCg.lst ys) :: (made ++ rest))) := fun q hq => List.mem_cons_of_mem _ (List.mem_cons_of_mem _ hq)
        have zC₂ := N₂ (H2.objs.size, oC) (m2 _ (List.mem_append.mpr (.inr List.mem_cons_self)))
        have zD₂ := N₂ (s₂.heap.objs.size, LCg.lst ys) (m2 _ (List.mem_append.mpr (.inr (List.mem_cons_of_mem _ List.mem_cons_self))))
        refine wpAny_assign_Name (wpAny_storeName_local (lookup_relabel_local hx) (hoC.ns zC₂.1) (fun h₃ hn₃ hs₃ => ?_) (by simp [compEnvC, relabel, hkind]))
        refine wpAny_tests_nil ?_
        simp only [if_true]
        obtain ⟨oC₃, eC₃, hoC₃⟩ := LCg.ns_obj hn₃
        have F₃ : Fr h₀ L h₃ m := F₂.change hs₃ hCL hC₀
        have hl3 : ∀ q ∈ (I, oI) :: (Lg, oN) :: (new ++ (made ++ rest)), q.1 ≠ H2.objs.size ∧ q.1 ≠ s₂.heap.objs.size := List.forall_mem_cons.mpr ⟨⟨Ne.symm hCI, Ne.symm hDI⟩, List.forall_mem_cons.mpr ⟨⟨Ne.symm hCg, Ne.symm hDg⟩, fun q hq => by
          rcases List.mem_append.mp hq with hq | hq
          · exact hnewC q hq
          · exact hoff q hq⟩⟩
        have N₃l : News h₀ L h₃ ((I, oI) :: (Lg, oN) :: (new ++ (made ++ rest))) := fun q hq => by
          have z : News h₀ L h₂ ((I, oI) :: (Lg, oN) :: (new ++ (made ++ rest))) := fun q hq => N₂ q (by
            simp only [List.mem_cons, List.mem_append] at hq ⊢
            rcases hq with hq | hq | hq | hq | hq <;> simp [hq])
          exact ⟨hs₃.extBut _ _ (hl3 q hq).1 (z q hq).1, (z q hq).2⟩
        have N₃ : News h₀ L h₃ ((H2.objs.size, oC₃) :: (s₂.heap.objs.size, LCg.lst ys) :: ((I, oI) :: (Lg, oN) :: (new ++ (made ++ rest)))) :=
          List.forall_mem_cons.mpr ⟨⟨eC₃, hCL, hC₀⟩, List.forall_mem_cons.mpr ⟨⟨hs₃.extBut _ _ hDC zD₂.1, hDL, hD₀⟩, N₃l⟩⟩
        refine wpAny_mono (hstep i v ys s₂.heap.objs.size H2.objs.size oC₃ _ _ ((I, oI) :: (Lg, oN) :: (new ++ (made ++ rest))) new _ hlt hd₂ (fun q hq => List.mem_cons_of_mem _ (List.mem_cons_of_mem _ (List.mem_append.mpr (.inl hq)))) hoC₃ (by simp) F₃ N₃ hl3 (Ne.symm hDC)) (fun y s₅ h₅ => ?_) fun _ _ e => e
        obtain ⟨new2, h₄, tk₄, rfl, F₄, N₄, ap₄, hit₄, hd₄⟩ := h₅
        have zD := (N₄ (s₂.heap.objs.size, LCg.lst ys) (List.mem_cons_of_mem _ List.mem_cons_self)).1
        have zC := (N₄ (H2.objs.size, oC₃) List.mem_cons_self).1
        refine append_at (hsz := by show ys.toArray.size ≤ sizeLine; rw [List.size_toArray, hyl, sizeLine_eq]; omega) zD fun h₅ hs₅ hD₅ => ?_
        have hno : ∀ q ∈ new2, q.1 ≠ H2.objs.size ∧ q.1 ≠ s₂.heap.objs.size := fun q hq => ⟨fun e => ap₄ q hq _ List.mem_cons_self e.symm, fun e => ap₄ q hq _ (List.mem_cons_of_mem _ List.mem_cons_self) e.symm⟩
        have hmm : new2 ++ (new ++ made) ++ rest = new2 ++ (new ++ (made ++ rest)) := by simp
        have hrk3 : RestOk Lg (new2 ++ (new ++ (made ++ rest))) := fun q hq => by
          rcases List.mem_append.mp hq with hq | hq
          · exact ⟨fun e => ap₄ q hq (Lg, oN) (List.mem_cons_of_mem _ (List.mem_cons_of_mem _ (List.mem_cons_of_mem _ List.mem_cons_self))) e.symm, .inr (hit₄ q hq)⟩
          · rcases List.mem_append.mp hq with hq | hq
            · exact hrk₂ q (List.mem_append.mpr (.inl hq))
            · exact hrk q hq
        refine ⟨N + 1 - (i + 1), by omega, h₅, tk₄, i + 1, ys ++ [y], gs', [(I, oI), (Lg, oN)], oC₃, _, new2 ++ (new ++ made), rfl, hlt, rfl, by rw [List.length_append, List.length_singleton, hyl], F₄.change hs₅ hDL hD₀, hoC₃, ?_, ⟨oN, List.mem_cons_of_mem _ List.mem_cons_self⟩, fun q hq => hl3 q (by
            simp only [List.mem_cons, List.not_mem_nil, or_false] at hq ⊢
            rcases hq with hq | hq <;> simp [hq]), ?_, ?_, ?_, ?_, ?_⟩
        · intro q hq
          have hq' : q = (H2.objs.size, oC₃) ∨ q = (s₂.heap.objs.size, LCg.lst (ys ++ [y])) ∨ q ∈ new2 ++ ((I, oI) :: (Lg, oN) :: (new ++ (made ++ rest))) := by
            simp only [List.mem_cons, List.mem_append, List.not_mem_nil, or_false] at hq ⊢
            rcases hq with (hq | hq) | hq | hq | (hq | hq | hq) | hq <;> simp [hq]
          rcases hq' with rfl | rfl | hq'
          · exact ⟨hs₅.extBut _ _ (Ne.symm hDC) zC, hCL, hC₀⟩
          · exact ⟨hD₅.trans (congrArg some (LCg.lst_snoc ys y)), hDL, hD₀⟩
          · have hd : q.1 ≠ s₂.heap.objs.size := by
              rcases List.mem_append.mp hq' with hq' | hq'
              · exact (hno q hq').2
              · exact (hl3 q hq').2
            have z := N₄ q (List.mem_cons_of_mem _ (List.mem_cons_of_mem _ hq'))
            exact ⟨hs₅.extBut _ _ hd z.1, z.2⟩
        · rw [hmm]
          intro q hq
          rcases List.mem_append.mp hq with hq | hq
          · exact hno q hq
          · rcases List.mem_append.mp hq with hq | hq
            · exact hnewC q hq
            · exact hoff q hq
        · rw [hmm]; exact hrk3
        · rw [show N - (i + 1) = j by omega]
          exact hgo₂
        · rw [unitsD_succ]
          exact (hda.mono fun q hq => by simp [hq]).append (.one (hd₄.mono fun q hq => by simp only [List.mem_append] at hq ⊢; rcases hq with hq | hq <;> simp [hq]))
        · intro q hq r hr'
          rcases List.mem_append.mp hq with hq | hq
          · exact ap₄ q hq r (by simp [hr'])
          · rcases List.mem_append.mp hq with hq | hq
            · exact ap₂ q hq r (by simp [hr'])
            · exact hap q hq r hr'
      · obtain rfl : i = N := Nat.le_antisymm hi (Nat.not_lt.mp hlt)
        rw [Nat.sub_self] at hgo'
        refine gen_done hh hroom hL hLg T rfl F' N' hG' hrk' hn' hgo' fun h₂ tk₂ F₂ N₂ => ?_
        have zC₂ := N₂ (H2.objs.size, oC) List.mem_cons_self
        exact hRR _ _ h₂ tk₂ _ ys made F₂ (fun q hq => N₂ q (List.mem_cons_of_mem _ hq)) hoff (hoC.ns zC₂.1) hC₀ hCL hDL (Ne.symm hDC) hap hda
    · intro q hq
      simp only [List.nil_append, List.cons_append, List.mem_cons] at hq
      rcases hq with rfl | rfl | rfl | hq
      · have z := Ns (Lg, oN₀) List.mem_cons_self
        exact ⟨old _ _ z.1, z.2⟩
      · exact ⟨eC₁, hCL, hC₀⟩
      · exact ⟨hacc, hDL, hD₀⟩
      · have z := Ns q (List.mem_cons_of_mem _ hq)
        exact ⟨old _ _ z.1, z.2⟩
    · intro q hq
      rw [List.mem_singleton.mp hq]
      exact ⟨Ne.symm hCg, Ne.symm hDg⟩
  have hGg : ∀ s₃ : Shared, s₃ = { s₂ with heap := h₁, toks := s₂.toks + ([] : List (Str × Value)).length } → s₃.heap.IsGen G 0 := by
    rintro s₃ rfl
    exact ⟨_, _, _, old _ _ (Ns _ (List.mem_cons_of_mem _ hG)).1, rfl, rfl, rfl⟩
  exact codeAny_compStart_list (loop _ rfl) (wpAny_pyIter_gen (hGg _ rfl) (loop _ rfl))
end
-- G8
section
variable {prog : Program} {w : World} {A : Around} {E : Value → Shared → Prop} {s : Shared} {h₀ : Heap} {L : Addr} {m : Str → Option Value} {env : Env}
theorem told_assign {elt iter : Expr} {x y : Str} {px py : Pos} {scope : Scope} {cl : List (Str × Addr)} {pos spos : Pos} {Q : Flow → Shared → Prop}
    (hsw : swapsWith (.ListComp elt [⟨.Name x px, iter, [], 0⟩] scope pos) (some (.Name y py)) spos.line env = pure true)
    (hclos : closureFor scope env = pure cl) (hkind : scope.kind = .function)
    (hnames : ∀ z ∈ scope.names, z.2 = .local → scope.names.lookup z.1 = some .local)
    (h : wpAny (model prog w) A (eval iter env) (fun xv s₂ => ∃ G, xv = .ref G ∧ s₂.heap.IsGen G 0 ∧
      wpAny (model prog w) A (newList []) (fun acc s₃ => wpAny (model prog w) A (newFunctionEnv scope env.globals cl [] env.qual none .none (some env)) (fun cenv s₄ =>
        codeAny (model prog w) A (.compStart (.ListComp elt [⟨.Name x px, iter, [], 0⟩] scope pos) 0 (.ref G) acc { cenv with scope := relabel scope env }) (compPost (model prog w) A E (some (assign (.Name y py) env)) (fun _ s' => Q .next s') acc cenv.locals) s₄) E s₃) E s₂) E s)
    (hs : ∀ x, foldedSetIterable iter env x = pure x := by intro _; rfl) :
    wpAny (model prog w) A (exec (.Assign [.Name y py] (.ListComp elt [⟨.Name x px, iter, [], 0⟩] scope pos) spos) env) Q E s := by
  rw [exec_Assign_Name_used _ _ _ _ hsw]
  refine wpAny_bind (wpAny_standAt (wpAny_bind ?_))
  show wpAny _ A (do let _ ← comprehension (.ListComp elt [⟨.Name x px, iter, [], 0⟩] scope pos) scope env _ (newList []) false (eval iter env) (some (assign (.Name y py) env))) _ _ s
  refine wpAny_bind (wpAny_mono (wpAny_comprehension_free (use := some (assign (.Name y py) env)) (Q := fun _ s' => Q .next s') rfl hs hclos hkind hnames
    (wpAny_mono h (fun xv s₁ h₁ => ?_) fun _ _ e => e)) (fun _ s' hq => wpAny_pure (wpAny_pure hq)) fun _ _ e => e)
  obtain ⟨G, rfl, hG, h₁⟩ := h₁
  exact wpAny_pyIter_gen hG h₁
theorem told_end {y : Str} {py : Pos} {Qn : Shared → Prop} {D C : Addr} {m' : Str → Option Value} {oD : Obj} {rest : List (Addr × Obj)} (hLe : env.locals = L)
    (hy : env.kindOf y = some .local) (hp : (env.scope.kind == .class || (env.scope.kind == .module && env.locals != env.globals)) = false)
    (F : Fr h₀ L s.heap m) (N : News h₀ L s.heap ((D, oD) :: rest)) (off : ∀ q ∈ rest, q.1 ≠ C ∧ q.1 ≠ D) (hn : s.heap.Ns C m') (hC₀ : h₀.get? C = none) (hCL : C ≠ L) (hCD : C ≠ D)
    (fin : ∀ h tk, Fr h₀ L h (fun z => if z = y then some (.ref D) else m z) → News h₀ L h ((D, oD) :: rest) → Qn { s with heap := h, toks := tk }) :
    compPost (model prog w) A E (some (assign (.Name y py) env)) (fun _ s' => Qn s') (.ref D) C (.ok .next) s := by
  subst hLe
  show wpAny _ A (assign (.Name y py) env (.ref D)) _ _ _
  refine wpAny_assign_Name (wpAny_storeName_local hy F.ns (fun h₂ hn₂ hs₂ => ?_) hp)
  have hL₀ : h₀.get? env.locals = none := Heap.get?_none_of_le F.above
  have F₂ : Fr h₀ env.locals h₂ (fun z => if z = y then some (.ref D) else m z) := ⟨hn₂, fun b o e => hs₂.extBut b o (fun q => by rw [q, hL₀] at e; cases e) (F.keep b o e), F.above⟩
  refine ⟨m', hn.sameBut hs₂ hCL, fun h'' hs'' => fin h'' _ (F₂.change hs'' hCL hC₀) (fun p hp => ?_)⟩
  have z : h₂.get? p.1 = some p.2 := hs₂.extBut _ _ (N p hp).2.1 (N p hp).1
  refine ⟨hs''.extBut _ _ ?_ z, (N p hp).2⟩
  rcases List.mem_cons.mp hp with rfl | hp
  · exact Ne.symm hCD
  · exact (off p hp).1
theorem tuple_in {t : Addr} {vs : List Value} {n : Nat} {news : List (Addr × Obj)} {Q : Value → Shared → Prop} (N : News h₀ L s.heap news) (hm : (t, ({ cls := .type "tuple", data := .seq vs.toArray n } : Obj)) ∈ news) (h : Q (.ref t) s) : wpAny (model prog w) A (call (.type "tuple") [.ref t]) Q E s :=
  call_tuple_same ⟨_, (N _ hm).1, rfl, n, rfl⟩ h
end
-- L1
local macro_rules | `(tactic| walk_at "call ref") => `(tactic| (k_here; (with_reducible show wpAny _ _ (call (Value.ref 192) _) _ _ _); k_dflt (refine' spring_spec (by k_asm) (by k_asm) (by k_asm) (by k_asm) (by k_asm) (by first | exact rfl | assumption) (by ktr_room) (by ktr_units) (by assumption) (by assumption) (by assumption) ?_; k_whole); intro sp' x' y' tx' ty' n' h' tk' hx' hy' hy2' F' N' ne'; (try k_fold)))
local macro_rules | `(tactic| walk_at "call ref") => `(tactic| (k_here; (with_reducible show wpAny _ _ (call (Value.ref 204) _) _ _ _); k_dflt (refine' frame_spec (by k_asm) (by k_asm) (by k_asm) (by k_asm) (by k_asm) (by first | exact rfl | assumption) (by ktr_room) (by ktr_units) (by assumption) (by assumption) (by assumption) (by assumption) ?_; k_whole); intro r' g' new' x' y' tx' ty' h' tk' hx' hy' hy2' F' N' ap' fi' ok'; (try k_fold)))
local macro_rules | `(tactic| walk_at "call ref") => `(tactic| (k_here; (with_reducible show wpAny _ _ (call (Value.ref 211) _) _ _ _); k_dflt (refine' order_spec (by k_asm) (by k_asm) (by k_asm) (by k_asm) (by k_asm) (by first | exact rfl | assumption) (by ktr_room) (by ktr_units) (by assumption) (by assumption) (by assumption) (by assumption) (by omega) (by omega) ?_; k_whole); intro r' ps' vs' n' new' x' y' tx' ty' h' tk' hx' hy' hy2' F' N' ap' me' ia' po'; (try k_fold)))

theorem look_eq {K : Frag} {f : Addr} {x : Obj} {oc : Value} {od : Option Addr} {osl : Array (Option Value)} {name qual : Str} {params : Arguments} {body : List Stmt} {scope : Scope} {dV kV doc pm cdv ct : Value} {an : Option Addr} {G : Prop} (e : K.lookup f = some x)
    (h : K.lookup f = some ⟨oc, od, .func (fnOf name qual params body scope dV kV doc pm an cdv ct), osl⟩) (k : x = ⟨oc, od, .func (fnOf name qual params body scope dV kV doc pm an cdv ct), osl⟩ → G) : G := k (Option.some.inj (e.symm.trans h))
theorem flat_rep {α : Type} {a : α} : ∀ (n : Nat), (List.replicate n [a]).flatten = List.replicate n a
  | 0 => rfl
  | n + 1 => by rw [List.replicate_succ, List.replicate_succ, List.flatten_cons, flat_rep n]; rfl
theorem scan_rot {h₀ h : Heap} {L : Addr} {a b c d e f g : Addr × Obj} {T : List (Addr × Obj)} (N : News h₀ L h (a :: b :: c :: d :: e :: f :: g :: T)) : News h₀ L h (g :: a :: b :: c :: d :: e :: f :: T) := fun p hp => N p (by
  simp only [List.mem_cons] at hp ⊢
  rcases hp with hp | hp | hp | hp | hp | hp | hp | hp <;> simp [hp])
/-- law's names behind its fourth row -/
def mapScan (l sp fr lo sc : Addr) : Str → Option Value := fun z => if z = Str.ofString "scan" then some (.ref sc) else if z = Str.ofString "my_order" then some (.ref lo) else if z = Str.ofString "frame" then some (.ref fr) else if z = Str.ofString "spring" then some (.ref sp) else List.lookup z [(Str.ofString "script", Value.ref l)]
section
variable {w : World} {mean : ExcName → Option Value} {mg mb : Str → Option Value} {dp un : Nat} {gd : Option (List Code)} {cn : Str} {cs : Scope} {a : Addr} {ccd : Value} {cl : List (Str × Addr)} {outer : List Env} {A₀ : Around} {base h₀ : Heap} {L : Addr} {m : Str → Option Value} {s : Shared} {Q : Flow → Shared → Prop} {E : Value → Shared → Prop} {news : List (Addr × Obj)}
  {name qual : Str} {params : Arguments} {body : List Stmt} {dV kV doc pm cdv ct oc : Value} {an od : Option Addr} {osl : Array (Option Value)}

set_option maxHeartbeats 4000000 in
theorem law_one {l : Addr} {vs : List Value} {ns : List Int} (hlook : (hd.heap_1 w.params).lookup 238 = some ⟨oc, od, .func (fnOf name qual params body cs dV kV doc pm an cdv ct), osl⟩) (B : Below A₀ base outer h₀) (F : Fr h₀ L s.heap (fun y => List.lookup y [(Str.ofString "script", Value.ref l)])) (X : (hd.heap_1 w.params).In h₀) (N : News h₀ L s.heap []) (T : Top lview (looseW lview []) mean mg mb h₀) (hk : cs.kind = .function)
    (hdp : dp + 40 < recursionLimit) (hun : un + 320 < cLine)
    (hl : base.IsList l vs.toArray) (hi : IntsAre vs ns) (hz : ns.length ≤ 63)
    (k : ∀ h tk sp x y tx ty n fr g lo ovs on ps sc T4, 0 ≤ x → 0 ≤ y → y < 4294967296 → Fr h₀ L h (mapScan l sp fr lo sc) → News h₀ L h ((sp, listOf #[.int x tx, .int y ty] n) :: T4) → (∀ p ∈ T4, p.1 ≠ sp) → FrameIn w T4 fr g → g.Ok → (lo, listOf ovs.toArray on) ∈ T4 → IntsAre ovs ps → PlacesOk g.comps.length ps → ScanIn w T4 sc ps →
      wpAny (model PySem.Challenge.rw_pf0231_01.row.prog w) (ktrTop dp un gd cn cs L a ccd cl outer) (execs (body.drop 4) (envX cn cs L a ccd cl)) Q E { s with heap := h, toks := tk }) :
    wpAny (model PySem.Challenge.rw_pf0231_01.row.prog w) (ktrTop dp un gd cn cs L a ccd cl outer) (execs body (envX cn cs L a ccd cl)) Q E s := by
  w_on
  have hz : PySem.Challenge.rw_pf0231_01 = PySem.Challenge.rw_pf0231_01 ∧ hd.heap_1 = hd.heap_1 := by
    k_fill
    exact ⟨rfl, rfl⟩
  clear hz
  refine' look_eq hlook ?e ?_
  case e => k_is
  intro hz2
  cases hz2
  refine stmt_step (R := fun s' => ∃ h tk sp x y tx ty n, 0 ≤ x ∧ 0 ≤ y ∧ y < 4294967296 ∧ s' = { s with heap := h, toks := tk } ∧ Fr h₀ L h (fun z => if z = Str.ofString "spring" then some (.ref sp) else List.lookup z [(Str.ofString "script", Value.ref l)]) ∧ News h₀ L h [(sp, listOf #[.int x tx, .int y ty] n)]) ?a1 ?k1
  case a1 =>
    k_steps
    rename_i sp x y tx ty n _ tk h1 h2 h3 _ h F N
    exact ⟨rfl, h, _, sp, x, y, tx, ty, n, h1, h2, h3, rfl, F, N⟩
  case k1 =>
    rintro s1 ⟨h1, tk1, sp, x, y, tx, ty, n, hx, hy, hy2, rfl, F1, N1⟩
    have hne : ∀ p ∈ ([] : List (Addr × Obj)), p.1 ≠ sp := fun _ h => nomatch h
    refine stmt_step (R := fun s' => ∃ h tk x y tx ty fr g T2, 0 ≤ x ∧ 0 ≤ y ∧ y < 4294967296 ∧ s' = { s with heap := h, toks := tk } ∧ Fr h₀ L h (fun z => if z = Str.ofString "frame" then some (.ref fr) else if z = Str.ofString "spring" then some (.ref sp) else List.lookup z [(Str.ofString "script", Value.ref l)]) ∧ News h₀ L h ((sp, listOf #[.int x tx, .int y ty] n) :: T2) ∧ (∀ p ∈ T2, p.1 ≠ sp) ∧ FrameIn w T2 fr g ∧ g.Ok) ?a2 ?k2
    case a2 =>
      k_steps
      rename_i r g new x' y' tx' ty' _ _ q1 q2 q3 ap fi ok h F N
      exact ⟨rfl, h, _, x', y', tx', ty', r, g, new ++ [], q1, q2, q3, rfl, F, N, fun p hp => fun e => ap p (by simpa using hp) _ List.mem_cons_self e.symm, fi.mono (by simp), ok⟩
    case k2 =>
      clear hx hy hy2 hne
      rintro s2 ⟨h2, tk2, x2, y2, tx2, ty2, fr, g, T2, hx, hy, hy2, rfl, F2, N2, hne, hf, hg⟩
      obtain ⟨d, fl, q1, q2, q3, q4, q5, q6, u1, u2, u3, u4, u6, un1, un2, fvs, m1, m2, m3, m4⟩ := id hf
      have hvl : (fvs.length : Int) = (g.comps.length : Int) := by rw [m4.length]
      have hl3 := hg.len
      refine stmt_step (R := fun s' => ∃ h tk x y tx ty lo ovs on ps T3, 0 ≤ x ∧ 0 ≤ y ∧ y < 4294967296 ∧ s' = { s with heap := h, toks := tk } ∧ Fr h₀ L h (fun z => if z = Str.ofString "my_order" then some (.ref lo) else if z = Str.ofString "frame" then some (.ref fr) else if z = Str.ofString "spring" then some (.ref sp) else List.lookup z [(Str.ofString "script", Value.ref l)]) ∧ News h₀ L h ((sp, listOf #[.int x tx, .int y ty] n) :: T3) ∧ (∀ p ∈ T3, p.1 ≠ sp) ∧ FrameIn w T3 fr g ∧ (lo, listOf ovs.toArray on) ∈ T3 ∧ IntsAre ovs ps ∧ PlacesOk g.comps.length ps) ?a3 ?k3
      case a3 =>
        k_steps
        rename_i r ps ovs on new x' y' tx' ty' _ _ p1 p2 p3 ap me ia po h F N
        exact ⟨rfl, h, _, x', y', tx', ty', r, ovs, on, ps, new ++ T2, p1, p2, p3, rfl, F, N, fun p hp => by
          rcases List.mem_append.mp hp with hp | hp
          · exact fun e => ap p hp _ List.mem_cons_self e.symm
          · exact hne p hp, hf.mono fun p hp => List.mem_append.mpr (.inr hp), List.mem_append.mpr (.inl me), ia, po⟩
      case k3 =>
        clear hx hy hy2 hne m1 m2 m3 m4 hvl
        rintro s3 ⟨h3, tk3, x3, y3, tx3, ty3, lo, ovs, on, ps, T3, hx, hy, hy2, rfl, F3, N3, hne, hf3, hlo, hia, hps⟩
        have hvl : (ovs.length : Int) = (ps.length : Int) := by rw [hia.length]
        have hpl := hps.len
        refine stmt_step (R := fun s' => ∃ h tk sc T4, s' = { s with heap := h, toks := tk } ∧ Fr h₀ L h (fun z => if z = Str.ofString "scan" then some (.ref sc) else if z = Str.ofString "my_order" then some (.ref lo) else if z = Str.ofString "frame" then some (.ref fr) else if z = Str.ofString "spring" then some (.ref sp) else List.lookup z [(Str.ofString "script", Value.ref l)]) ∧ News h₀ L h ((sp, listOf #[.int x3 tx3, .int y3 ty3] n) :: T4) ∧ (∀ p ∈ T4, p.1 ≠ sp) ∧ FrameIn w T4 fr g ∧ (lo, listOf ovs.toArray on) ∈ T4 ∧ ScanIn w T4 sc ps) ?a4 ?k4
        case a4 =>
          k_steps
          rename_i za _ zl1 zb _ zi _ _ _ _ _ zl2 zc _ zl3 zd _ zj _ _ _ _ _ zl4 sc sd _ zl5 zl6 _ _ _ _ _ _ _ _ _ _ _ _ _ _ _ _ _ h F N
          simp only [Int.toNat_natCast, flat_rep] at zi zj N
          have N2 := scan_rot N
          refine ⟨rfl, h, _, sc, _, rfl, F, N2, ?_, ?_, ?_, ⟨sd, lo, _, _, _, _, _, _, _, _, _, _, _, _, _, _, on, 0, 0, _, _, _, List.mem_cons_self, List.mem_cons_of_mem _ List.mem_cons_self, ?_, hia, ?_, zi, ?_, zj⟩⟩
          · have y1 := zl1.1
            have y2 := zl2.2.1
            have y3 := zl3.2.2.1
            have y4 := zl4.2.2.2.1
            have y5 := zl5.2.2.2.2.1
            intro p hp
            simp only [List.mem_cons] at hp
            rcases hp with rfl | rfl | rfl | rfl | rfl | rfl | hp
            · exact Nat.ne_of_gt (Nat.lt_trans y5 zl6)
            · exact Nat.ne_of_gt y5
            · exact Nat.ne_of_gt y4
            · exact Nat.ne_of_gt y3
            · exact Nat.ne_of_gt y2
            · exact Nat.ne_of_gt y1
            · exact hne p hp
          · exact hf3.mono fun p hp => by simp [hp]
          · simp [hlo]
          · simp [hlo]
          · exact List.mem_cons_of_mem _ (List.mem_cons_of_mem _ (List.mem_cons_of_mem _ (List.mem_cons_of_mem _ List.mem_cons_self)))
          · exact List.mem_cons_of_mem _ (List.mem_cons_of_mem _ List.mem_cons_self)
        case k4 =>
          rintro s4 ⟨h4, tk4, sc, T4, rfl, F4, N4, hne4, hf4, hlo4, hs4⟩
          exact k h4 tk4 sp x3 y3 tx3 ty3 n fr g lo ovs on ps sc T4 hx hy hy2 F4 N4 hne4 hf4 hg hlo4 hia hps hs4
end
-- L2
local macro_rules | `(tactic| walk_at "call ref") => `(tactic| (k_here; (with_reducible show wpAny _ _ (call (Value.ref 233) _) _ _ _); k_dflt (refine' row_spec (by k_asm) (by k_asm) (by k_asm) (by k_asm) (by k_asm) (by first | exact rfl | assumption) (by ktr_room) (by ktr_units) (by first | assumption | exact FrameIn.mono (by assumption) (by lcg_sub)) (by assumption) (by first | assumption | exact ScanIn.mono (by assumption) (by lcg_sub)) (by assumption) ?_; k_whole); intro r' new' h' tk' F' N' ap' di'; (try k_fold)))
local macro_rules | `(tactic| walk_at "call ref") => `(tactic| (k_here; (with_reducible show wpAny _ _ (call (Value.ref 228) _) _ _ _); k_dflt (refine' due_spec (by k_asm) (by k_asm) (by k_asm) (by k_asm) (by k_asm) (by first | exact rfl | assumption) (by ktr_room) (by ktr_units) (by first | assumption | exact FrameIn.mono (by assumption) (by lcg_sub)) (by assumption) (by k_mem) (by assumption) (by assumption) ?_; k_whole); intro r' d' t' nt' new' h' tk' F' N' ap' me' du'; (try k_fold)))

theorem DueIn.mono {w : World} {l l' : List (Addr × Obj)} {d : Addr} {es : List Ent} (h : DueIn w l d es) (hs : ∀ p ∈ l, p ∈ l') : DueIn w l' d es := by
  obtain ⟨o, xs, h1, h2, h3, h4⟩ := h
  exact ⟨o, xs, hs _ h1, h2, h3.mono hs, h4⟩
/-- law's names behind its fifth row -/
def mapDue (l sp fr lo sc bf d : Addr) (many : Int) (t : Tok) : Str → Option Value := fun z => if z = Str.ofString "due" then some (.ref d) else if z = Str.ofString "many" then some (.int many t) else if z = Str.ofString "before" then some (.ref bf) else if z = Str.ofString "scan" then some (.ref sc) else if z = Str.ofString "my_order" then some (.ref lo) else if z = Str.ofString "frame" then some (.ref fr) else if z = Str.ofString "spring" then some (.ref sp) else List.lookup z [(Str.ofString "script", Value.ref l)]
section
variable {w : World} {mean : ExcName → Option Value} {mg mb : Str → Option Value} {dp un : Nat} {gd : Option (List Code)} {cn : Str} {cs : Scope} {a : Addr} {ccd : Value} {cl : List (Str × Addr)} {outer : List Env} {A₀ : Around} {base h₀ : Heap} {L : Addr} {m : Str → Option Value} {s : Shared} {Q : Flow → Shared → Prop} {E : Value → Shared → Prop} {news : List (Addr × Obj)}
  {name qual : Str} {params : Arguments} {body : List Stmt} {dV kV doc pm cdv ct oc : Value} {an od : Option Addr} {osl : Array (Option Value)}

set_option maxHeartbeats 4000000 in
theorem law_two {l sp fr lo sc : Addr} {x y : Int} {tx ty : Tok} {n on : Nat} {g : Geo} {ovs : List Value} {ps : List Int} {T4 : List (Addr × Obj)} (hlook : (hd.heap_1 w.params).lookup 238 = some ⟨oc, od, .func (fnOf name qual params body cs dV kV doc pm an cdv ct), osl⟩) (B : Below A₀ base outer h₀) (F : Fr h₀ L s.heap (mapScan l sp fr lo sc)) (X : (hd.heap_1 w.params).In h₀) (N : News h₀ L s.heap ((sp, listOf #[.int x tx, .int y ty] n) :: T4)) (T : Top lview (looseW lview []) mean mg mb h₀) (hk : cs.kind = .function)
    (hdp : dp + 40 < recursionLimit) (hun : un + 320 < cLine)
    (hne : ∀ p ∈ T4, p.1 ≠ sp) (hf : FrameIn w T4 fr g) (hg : g.Ok) (hlo : (lo, listOf ovs.toArray on) ∈ T4) (hia : IntsAre ovs ps) (hps : PlacesOk g.comps.length ps) (hs : ScanIn w T4 sc ps)
    (k : ∀ h tk bf d t T5, Fr h₀ L h (mapDue l sp fr lo sc bf d (uA g ps * uD g ps) t) → News h₀ L h ((sp, listOf #[.int x tx, .int y ty] n) :: T5) → (∀ p ∈ T5, p.1 ≠ sp) → (∀ p ∈ T4, p ∈ T5) → DatIn T5 (.ref bf) (rowD g ps) → DueIn w T5 d (dueEnts g ps) →
      wpAny (model PySem.Challenge.rw_pf0231_01.row.prog w) (ktrTop dp un gd cn cs L a ccd cl outer) (execs (body.drop 5) (envX cn cs L a ccd cl)) Q E { s with heap := h, toks := tk }) :
    wpAny (model PySem.Challenge.rw_pf0231_01.row.prog w) (ktrTop dp un gd cn cs L a ccd cl outer) (execs (body.drop 4) (envX cn cs L a ccd cl)) Q E s := by
  w_on
  have hz : PySem.Challenge.rw_pf0231_01 = PySem.Challenge.rw_pf0231_01 ∧ hd.heap_1 = hd.heap_1 := by
    k_fill
    exact ⟨rfl, rfl⟩
  clear hz
  refine' look_eq hlook ?e ?_
  case e => k_is
  intro hz2
  cases hz2
  have hp3 : ps.length ≤ 3 := by
    have := hps.len
    have := hg.len
    omega
  have hol : ovs.length = ps.length := hia.length
  refine stmt_step (R := fun s' => ∃ h tk bf d t T5, s' = { s with heap := h, toks := tk } ∧ Fr h₀ L h (mapDue l sp fr lo sc bf d (uA g ps * uD g ps) t) ∧ News h₀ L h ((sp, listOf #[.int x tx, .int y ty] n) :: T5) ∧ (∀ p ∈ T5, p.1 ≠ sp) ∧ (∀ p ∈ T4, p ∈ T5) ∧ DatIn T5 (.ref bf) (rowD g ps) ∧ DueIn w T5 d (dueEnts g ps)) ?a1 ?k1
  case a1 =>
    unfold mapScan at F
    k_steps
    rename_i bf new1 _ _ ap1 di _ _ D1 c1 _ l1 rr d t nt new2 _ _ ap2 me du _ _ l2 _ _ _ _ h F N
    have hn1 : ∀ p ∈ new1, p.1 ≠ sp := fun p hp e => ap1 p hp _ List.mem_cons_self e.symm
    refine ⟨rfl, h, _, bf, d, t, new2 ++ ((D1, listOf ovs.toArray c1) :: (new1 ++ T4)), rfl, F, fun p hp => N p ?_, fun p hp => ?_, fun p hp => ?_, di.mono fun p hp => ?_, du.mono fun p hp => ?_⟩
    · simp only [List.mem_cons, List.mem_append] at hp ⊢
      rcases hp with hp | hp | hp | hp | hp <;> simp [hp]
    · simp only [List.mem_cons, List.mem_append] at hp
      rcases hp with hp | rfl | hp | hp
      · exact fun e => ap2 p hp _ (List.mem_cons_of_mem _ (List.mem_append.mpr (.inr List.mem_cons_self))) e.symm
      · exact Nat.ne_of_gt (l1 _ (List.mem_append.mpr (.inr List.mem_cons_self)))
      · exact hn1 p hp
      · exact hne p hp
    · simp [hp]
    · simp [hp]
    · simp [hp]
  case k1 =>
    rintro s1 ⟨h, tk, bf, d, t, T5, rfl, F5, N5, hne5, hsub, di, du⟩
    exact k h tk bf d t T5 F5 N5 hne5 hsub di du
end
-- L3
local macro_rules | `(tactic| walk_at "call ref") => `(tactic| (k_here; (with_reducible show wpAny _ _ (call (Value.ref 49) _) _ _ _); k_dflt (refine' units_spec (by k_asm) (by k_asm) (by k_asm) (by k_asm) (by k_asm) (by first | exact rfl | assumption) (by ktr_room) (by ktr_units) (by assumption) (by assumption) (by assumption) (by assumption) (by assumption) (by assumption) ?_; k_whole); intro G' Lg' oN' nm' qn' t' u' code' h' tk' F' N' l1' l2' l3' go'; (try k_fold)))
local macro_rules | `(tactic| walk_at "call type:tuple") => `(tactic| (k_here; (with_reducible show wpAny _ _ (call (Value.type _) [Value.ref _]) _ _ _); (with_unfolding_all refine' tuple_in (by k_asm) (by k_mem) ?_; k_whole)))

theorem datIn_list {l : List (Addr × Obj)} {v : Addr} {ds : List Dat} (h : DatIn l (.ref v) (.list ds)) : ∃ vs n, (v, listOf vs.toArray n) ∈ l ∧ DatAll l vs ds := by
  cases h with
  | list hm ha => exact ⟨_, _, hm, ha⟩
theorem datAll_length {l : List (Addr × Obj)} : ∀ {vs : List Value} {ds : List Dat}, DatAll l vs ds → vs.length = ds.length
  | _, _, .nil => rfl
  | _, _, .cons _ r => congrArg (· + 1) (datAll_length r)
theorem datAll_get {l : List (Addr × Obj)} : ∀ {vs : List Value} {ds : List Dat}, DatAll l vs ds → ∀ {i : Nat} {v : Value}, vs[i]? = some v → ∃ d, ds[i]? = some d ∧ DatIn l v d
  | _, _, .nil, i, v, h => by simp at h
  | _, _, .cons a r, 0, v, h => by simp at h; subst h; exact ⟨_, rfl, a⟩
  | _, _, .cons a r, i + 1, v, h => by simpa using datAll_get r (i := i) (by simpa using h)
theorem datIn_blk {l : List (Addr × Obj)} {v : Value} {b : Blk} (h : DatIn l v (blkD b)) : ∃ (t : Addr) (n : Nat) (t0 t1 t2 t3 : Tok), v = .ref t ∧ (t, ({ cls := .type "tuple", data := .seq [.int b.1 t0, .int b.2.1 t1, .int b.2.2.1 t2, .int b.2.2.2 t3].toArray n } : Obj)) ∈ l := by
  unfold blkD at h
  cases h with
  | tuple hm ha =>
    cases ha with
    | cons a0 ha =>
      cases ha with
      | cons a1 ha =>
        cases ha with
        | cons a2 ha =>
          cases ha with
          | cons a3 ha =>
            cases ha with
            | nil =>
              cases a0 with
              | int _ t0 =>
                cases a1 with
                | int _ t1 =>
                  cases a2 with
                  | int _ t2 =>
                    cases a3 with
                    | int _ t3 => exact ⟨_, _, t0, t1, t2, t3, rfl, hm⟩
section
variable {w : World} {mean : ExcName → Option Value} {mg mb : Str → Option Value} {dp un : Nat} {gd : Option (List Code)} {cn : Str} {cs : Scope} {a : Addr} {ccd : Value} {cl : List (Str × Addr)} {outer : List Env} {A₀ : Around} {base h₀ : Heap} {L : Addr} {m : Str → Option Value} {s : Shared} {Q : Flow → Shared → Prop} {E : Value → Shared → Prop} {news : List (Addr × Obj)}
  {name qual : Str} {params : Arguments} {body : List Stmt} {dV kV doc pm cdv ct oc : Value} {an od : Option Addr} {osl : Array (Option Value)}

set_option maxHeartbeats 4000000 in
theorem law_three {l sp fr lo sc bf d : Addr} {x y many : Int} {tx ty t : Tok} {n Nn : Nat} {g : Geo} {ps : List Int} {T5 : List (Addr × Obj)} (hlook : (hd.heap_1 w.params).lookup 238 = some ⟨oc, od, .func (fnOf name qual params body cs dV kV doc pm an cdv ct), osl⟩) (B : Below A₀ base outer h₀) (F : Fr h₀ L s.heap (mapDue l sp fr lo sc bf d many t)) (X : (hd.heap_1 w.params).In h₀) (N : News h₀ L s.heap ((sp, listOf #[.int x tx, .int y ty] n) :: T5)) (T : Top lview (looseW lview []) mean mg mb h₀) (hk : cs.kind = .function)
    (hdp : dp + 40 < recursionLimit) (hun : un + 320 < cLine)
    (hL : L = h₀.objs.size) (hgens : s.gens = #[]) (hne : ∀ p ∈ T5, p.1 ≠ sp) (hf : FrameIn w T5 fr g) (hg : g.Ok) (hps : PlacesOk g.comps.length ps) (hs : ScanIn w T5 sc ps) (hN : (Nn : Int) = uA g ps * uD g ps)
    (k : ∀ h tk tl ys T6, Fr h₀ L h (fun z => if z = Str.ofString "told" then some (.ref tl) else mapDue l sp fr lo sc bf d many t z) → News h₀ L h ((sp, listOf #[.int x tx, .int y ty] n) :: (tl, LCg.lst ys) :: T6) → (∀ p ∈ T6, p.1 ≠ sp) → tl ≠ sp → (∀ p ∈ T6, p.1 ≠ tl) → (∀ p ∈ T5, p ∈ T6) → DatAll T6 ys (unitsD g ps Nn) →
      wpAny (model PySem.Challenge.rw_pf0231_01.row.prog w) (ktrTop dp un gd cn cs L a ccd cl outer) (execs (body.drop 6) (envX cn cs L a ccd cl)) Q E { s with heap := h, gens := #[.finished], toks := tk }) :
    wpAny (model PySem.Challenge.rw_pf0231_01.row.prog w) (ktrTop dp un gd cn cs L a ccd cl outer) (execs (body.drop 5) (envX cn cs L a ccd cl)) Q E s := by
  w_on
  have hz : PySem.Challenge.rw_pf0231_01 = PySem.Challenge.rw_pf0231_01 ∧ hd.heap_1 = hd.heap_1 := by
    k_fill
    exact ⟨rfl, rfl⟩
  clear hz
  obtain ⟨AA, hAA⟩ : ∃ AA, AA = ktrTop dp un gd cn cs L a ccd cl outer := ⟨_, rfl⟩
  refine' look_eq hlook ?e ?_
  case e => k_is
  intro hz2
  cases hz2
  have hA := uA_bounds hg hps
  have hD := uD_bounds hg hps
  have hbb := mul_bounds hA hD
  have hNb : Nn ≤ 100000 := by omega
  have hfs : FrameIn w ((sp, listOf #[.int x tx, .int y ty] n) :: T5) fr g := hf.mono fun p hp => List.mem_cons_of_mem _ hp
  have hss : ScanIn w ((sp, listOf #[.int x tx, .int y ty] n) :: T5) sc ps := hs.mono fun p hp => List.mem_cons_of_mem _ hp
  obtain ⟨hp0, ge0, dr0, tk0, os0⟩ := s
  obtain rfl : ge0 = #[] := hgens
  refine wpAny_execs_cons ?_
  refine told_assign (by with_unfolding_all rfl) (by rfl) (by rfl) (by decide) ?_
  refine wpAny_mono (Q := fun xv s₂ => Stop (∃ G Lg oN nm qn t' u code h' tk', xv = .ref G ∧ s₂ = { heap := h', gens := #[.fresh code], drawn := dr0, toks := tk', os := os0 } ∧ Fr h₀ L h' (mapDue l sp fr lo sc bf d many t) ∧ News h₀ L h' ((G, genObj 0 nm qn t' u) :: (Lg, oN) :: (sp, listOf #[.int x tx, .int y ty] n) :: T5) ∧ L < Lg ∧ Lg < G ∧
    (∀ p ∈ (sp, listOf #[.int x tx, .int y ty] n) :: T5, p.1 < Lg) ∧ UGoes PySem.Challenge.rw_pf0231_01.row.prog w AA Nn h₀ L Lg ((sp, listOf #[.int x tx, .int y ty] n) :: T5) g ps (.fresh code) [(Lg, oN)] Nn)) ?w ?kk (fun _ _ e => e)
  case w =>
    unfold mapDue at F ⊢
    k_steps
    unfold Stop
    rename_i G Lg oN nm qn t' u code h' tk' F' N' l1 l2 l3 go
    exact ⟨G, Lg, oN, nm, qn, t', u, code, h', _, rfl, rfl, F', N', l1, l2, l3, hAA ▸ go⟩
  case kk =>
    intro xv s2 hq
    obtain ⟨G, Lg, oN, nm, qn, t', u, code, h', tk', rfl, rfl, F', N', l1, l2, l3, go⟩ := hq
    have zG := N' _ List.mem_cons_self
    subst hAA
    refine ⟨G, rfl, ⟨_, _, _, zG.1, rfl, rfl, rfl⟩, ?_⟩
    refine told_block (rest := (G, genObj 0 nm qn t' u) :: (sp, listOf #[.int x tx, .int y ty] n) :: T5) rfl ?hroom hL l1 T hNb (by decide) rfl (by rfl) rfl F' (fun q hq => N' q (by
      simp only [List.mem_cons] at hq ⊢
      rcases hq with hq | hq | hq | hq <;> simp [hq])) List.mem_cons_self ?hr (fun q hq => List.mem_cons_of_mem _ hq) go ?hstep ?hRR
    case hroom => ktr_room
    case hr =>
      refine List.forall_mem_cons.mpr ⟨⟨Nat.ne_of_gt l2, .inr (.cls (by show Value.type "generator" ≠ Value.type "range_iterator"; decide))⟩, fun q hq => ⟨Nat.ne_of_lt (l3 q hq), .inl (l3 q hq)⟩⟩
    case hstep =>
      intro i v ys D C oC m₂ s₃ l' pers E' hi hd hsub hoC hx F3 N3 hoff hCD
      obtain ⟨vs, vn, hm, hall⟩ := datIn_list hd
      have hvl : vs.length = (unitNo g ps (i : Int)).length := by rw [datAll_length hall, List.length_map]
      refine LCg.ListComp_U (F₀ := F3) (by rfl) (by decide) (by rfl) (by decide) (by rfl) ?_
      refine LCgL.ld_own N3 List.mem_cons_self hoC hx ?_
      refine LCg.CompSrc.ledger (its := vs.toArray) (k := vn) rfl F3 N3 (List.mem_cons_of_mem _ (List.mem_cons_of_mem _ (hsub _ hm))) ?hsz (fun g' => ?_)
      case hsz =>
        rw [List.size_toArray, sizeLine_eq, hvl]
        have := unitBs_len_le hg hps (Int.fmod (i : Int) (uA g ps)) (Int.fdiv (i : Int) (uA g ps))
        unfold unitNo
        omega
      refine compRest_inv vs.toArray.size (fun j ys2 nx => nx = (C, oC) :: (D, LCg.lst ys) :: l' ∧ ys2 = vs.take j) ?step ?fin _ 0 [] _ rfl ⟨rfl, rfl⟩
      case step =>
        intro j ys2 nx v2 I oI C2 oC2 D2 m3 hh tk3 E3 hj hinv hv2 hC2 hx2 F4 N4 off4 ne4
        obtain ⟨rfl, rfl⟩ := hinv
        obtain ⟨db, hdb, hdi⟩ := datAll_get hall (by simpa using hv2)
        obtain ⟨b, hb, rfl⟩ : ∃ b, (unitNo g ps (i : Int))[j]? = some b ∧ blkD b = db := by
          rw [List.getElem?_map] at hdb
          cases e : (unitNo g ps (i : Int))[j]? with
          | none => rw [e] at hdb; cases hdb
          | some b => rw [e] at hdb; exact ⟨b, rfl, Option.some.inj hdb⟩
        obtain ⟨tt, tn, t0, t1, t2, t3, rfl, htm⟩ := datIn_blk hdi
        have htl := List.mem_cons_of_mem (C, oC) (List.mem_cons_of_mem (D, LCg.lst ys) (hsub _ htm))
        have hvm := List.mem_cons_of_mem (C, oC) (List.mem_cons_of_mem (D, LCg.lst ys) (hsub _ hm))
        have htk : vs.take (j + 1) = vs.take j ++ [.ref tt] := by rw [List.take_add_one, (by simpa using hv2 : vs[j]? = some (.ref tt))]; rfl
        generalize hnx : (C, oC) :: (D, LCg.lst ys) :: l' = nx at htl hvm F4 N4 off4 ⊢
        k_steps
        exact htk.symm
      case fin =>
        rintro ys2 nx ⟨rfl, rfl⟩ D2 h5 tk5 F5 N5 o5
        rw [List.take_of_length_le (by simp)] at N5
        have o6 := off1_out o5
        refine ⟨[(D2, LCg.lst vs)], h5, tk5, rfl, F5, fun q hq => N5 q ?_, ?_, ?_, .list (vs := vs) List.mem_cons_self (hall.mono fun q hq => List.mem_cons_of_mem _ hq)⟩
        · simp only [List.mem_cons, List.cons_append, List.nil_append] at hq ⊢
          rcases hq with hq | hq | hq | hq <;> simp [hq]
        · intro q hq r hr
          rw [List.mem_singleton.mp hq]
          exact o6 r hr
        · intro q hq
          rw [List.mem_singleton.mp hq]
          exact .cls (by show Value.type "list" ≠ Value.type "range_iterator"; decide)
    case hRR =>
      intro D C h tk m' ys made F1 N1 off hn hC0 hCL hDL hCD hap hda
      refine told_end (s := { heap := h, gens := #[.finished], drawn := dr0, toks := tk, os := os0 }) (env := envX cn _ L a ccd cl) rfl ?hy ?hp F1 N1 off hn hC0 hCL hCD (fun h2 tk2 F2 N2 => ?fin2)
      case hy => rfl
      case hp => rfl
      refine k h2 tk2 D ys (made ++ (G, genObj 0 nm qn t' u) :: T5) F2 (fun q hq => N2 q ?_) (fun q hq => ?_) ?_ (fun q hq => ?_) (fun q hq => by simp [hq]) (hda.mono fun q hq => by simp [hq])
      · simp only [List.mem_cons, List.mem_append] at hq ⊢
        rcases hq with hq | hq | hq | hq | hq <;> simp [hq]
      · rcases List.mem_append.mp hq with hq | hq
        · exact fun e => hap q hq (sp, _) (List.mem_cons_of_mem _ List.mem_cons_self) e.symm
        · rcases List.mem_cons.mp hq with rfl | hq
          · exact Nat.ne_of_gt (Nat.lt_trans (l3 _ List.mem_cons_self) l2)
          · exact hne q hq
      · exact fun e => (off (sp, _) (List.mem_append.mpr (.inr (List.mem_cons_of_mem _ List.mem_cons_self)))).2 e.symm
      · exact (off q (by simp only [List.mem_cons, List.mem_append] at hq ⊢; rcases hq with hq | hq | hq <;> simp [hq])).2
end
-- L4
/-- law's names behind its sixth row -/
def mapTold (l sp fr lo sc bf d : Addr) (many : Int) (t : Tok) (tl : Addr) : Str → Option Value := fun z => if z = Str.ofString "told" then some (.ref tl) else mapDue l sp fr lo sc bf d many t z

section
variable {prog : Program} {w : World} {A : Around} {E : Value → Shared → Prop} {s : Shared} {h₀ : Heap} {L : Addr} {m : Str → Option Value} {news : List (Addr × Obj)}
theorem sum_in {l : Addr} {vs : List Value} {ns : List Int} {n : Nat} {Q : Value → Shared → Prop} (hh : A.handled = none) (F : Fr h₀ L s.heap m) (N : News h₀ L s.heap news) (hm : (l, listOf vs.toArray n) ∈ news) (hi : IntsAre vs ns)
    (h : ∀ h' tk t', Fr h₀ L h' m → News h₀ L h' news → Q (.int ns.sum t') { s with heap := h', toks := tk }) : wpAny (model prog w) A (call (.builtin "sum") [.ref l]) Q E s :=
  sumK hh F N ⟨_, (N _ hm).1, rfl, n, rfl⟩ hi h
end
theorem lensOf_take {g : Geo} {ps : List Int} {n i : Nat} (h : i < n) : (lensOf g ps n).take (i + 1) = (lensOf g ps n).take i ++ [((unitNo g ps (i : Int)).length : Int)] := by
  unfold lensOf
  rw [List.take_add_one, List.getElem?_map, List.getElem?_range h]
  rfl
local macro_rules | `(tactic| walk_at "call builtin:len") => `(tactic| (k_here; (with_reducible show wpAny _ _ (call (Value.builtin "len") [Value.ref _]) _ _ _); k_dflt (refine' tdict_len (by k_asm) (by k_mem) (by assumption) (by assumption) (by assumption) ?_; k_whole); intro t' tk'))
local macro_rules | `(tactic| walk_at "call builtin:sum") => `(tactic| (k_here; (with_reducible show wpAny _ _ (call (Value.builtin "sum") [Value.ref _]) _ _ _); k_dflt (refine' sum_in (by rfl) (by k_asm) (by k_asm) (by k_mem) (by assumption) ?_; k_whole); intro h' tk' t' F' N'))
section
local macro_rules | `(tactic| walk_at "CompSrc") => `(tactic| (k_here; refine stop_here ?_))
section
variable {w : World} {mean : ExcName → Option Value} {mg mb : Str → Option Value} {dp un : Nat} {gd : Option (List Code)} {cn : Str} {cs : Scope} {a : Addr} {ccd : Value} {cl : List (Str × Addr)} {outer : List Env} {A₀ : Around} {base h₀ : Heap} {L : Addr} {m : Str → Option Value} {s : Shared} {Q : Flow → Shared → Prop} {E : Value → Shared → Prop} {news : List (Addr × Obj)}
  {name qual : Str} {params : Arguments} {body : List Stmt} {dV kV doc pm cdv ct oc : Value} {an od : Option Addr} {osl : Array (Option Value)}

set_option maxHeartbeats 4000000 in
theorem law_four {l sp fr lo sc bf d tl : Addr} {x y : Int} {tx ty t : Tok} {n Nn : Nat} {g : Geo} {ps : List Int} {ys : List Value} {T6 : List (Addr × Obj)} (hlook : (hd.heap_1 w.params).lookup 238 = some ⟨oc, od, .func (fnOf name qual params body cs dV kV doc pm an cdv ct), osl⟩) (B : Below A₀ base outer h₀) (F : Fr h₀ L s.heap (mapTold l sp fr lo sc bf d (uA g ps * uD g ps) t tl)) (X : (hd.heap_1 w.params).In h₀) (N : News h₀ L s.heap ((sp, listOf #[.int x tx, .int y ty] n) :: (tl, LCg.lst ys) :: T6)) (T : Top lview (looseW lview []) mean mg mb h₀) (hk : cs.kind = .function)
    (hdp : dp + 40 < recursionLimit) (hun : un + 320 < cLine)
    (hf : FrameIn w T6 fr g) (hg : g.Ok) (hps : PlacesOk g.comps.length ps) (hs : ScanIn w T6 sc ps) (hN : (Nn : Int) = uA g ps * uD g ps) (du : DueIn w T6 d (dueEnts g ps)) (hy : DatAll T6 ys (unitsD g ps Nn))
    (k : ∀ h tk, Fr h₀ L h (mapTold l sp fr lo sc bf d (uA g ps * uD g ps) t tl) → News h₀ L h ((sp, listOf #[.int x tx, .int y ty] n) :: (tl, LCg.lst ys) :: T6) →
      wpAny (model PySem.Challenge.rw_pf0231_01.row.prog w) (ktrTop dp un gd cn cs L a ccd cl outer) (execs (body.drop 7) (envX cn cs L a ccd cl)) Q E { s with heap := h, toks := tk }) :
    wpAny (model PySem.Challenge.rw_pf0231_01.row.prog w) (ktrTop dp un gd cn cs L a ccd cl outer) (execs (body.drop 6) (envX cn cs L a ccd cl)) Q E s := by
  w_on
  have hz : PySem.Challenge.rw_pf0231_01 = PySem.Challenge.rw_pf0231_01 ∧ hd.heap_1 = hd.heap_1 := by
    k_fill
    exact ⟨rfl, rfl⟩
  clear hz
  refine' look_eq hlook ?e ?_
  case e => k_is
  intro hz2
  cases hz2
  have hA := uA_bounds hg hps
  have hD := uD_bounds hg hps
  have hbb := mul_bounds hA hD
  obtain ⟨oD, xs, dm, dT, dE, dS⟩ := du
  have hxl : xs.length ≤ 1000000 := by rw [dE.length]; exact due_len_le hg hps
  have hyl : ys.length = Nn := by rw [datAll_length hy]; simp [unitsD]
  have hvl : (ys.length : Int) = uA g ps * uD g ps := by omega
  refine stmt_step (R := fun s' => ∃ h tk, s' = { s with heap := h, toks := tk } ∧ Fr h₀ L h (mapTold l sp fr lo sc bf d (uA g ps * uD g ps) t tl) ∧ News h₀ L h ((sp, listOf #[.int x tx, .int y ty] n) :: (tl, LCg.lst ys) :: T6)) ?a1 ?k1
  case a1 =>
    unfold mapTold mapDue at F ⊢
    k_steps
    any_goals (rename_i hq; exact absurd rfl hq)
    rename_i F1 N1 _
    unfold Stop
    refine LCg.CompSrc.ledger (its := ys.toArray) (k := ys.length) rfl F1 N1 (List.mem_cons_of_mem _ List.mem_cons_self) (by rw [List.size_toArray, sizeLine_eq]; omega) (fun g' => ?_)
    refine compRest_inv ys.toArray.size (fun j ys2 nx => nx = (sp, listOf #[.int x tx, .int y ty] n) :: (tl, LCg.lst ys) :: T6 ∧ IntsAre ys2 ((lensOf g ps Nn).take j)) ?step ?fin _ 0 [] _ rfl ⟨rfl, .nil⟩
    case step =>
      intro j ys2 nx v2 I oI C2 oC2 D2 m3 hh tk3 E3 hj hinv hv2 hC2 hx2 F4 N4 off4 ne4
      obtain ⟨rfl, hi2⟩ := hinv
      have hjN : j < Nn := by simpa [hyl] using hj
      obtain ⟨db, hdb, hdi⟩ := datAll_get hy (by simpa using hv2)
      have edb : db = unitD g ps j := by
        unfold unitsD at hdb
        rw [List.getElem?_map, List.getElem?_range hjN] at hdb
        exact (Option.some.inj hdb).symm
      subst edb
      obtain ⟨v, rfl⟩ : ∃ v, v2 = .ref v := by
        unfold unitD at hdi
        cases hdi with
        | list _ _ => exact ⟨_, rfl⟩
      obtain ⟨vs, vn, hm, hall⟩ := datIn_list hdi
      have hvn : (vs.length : Int) = ((unitNo g ps (j : Int)).length : Int) := by rw [datAll_length hall, List.length_map]
      have hul := unitBs_len_le hg hps (Int.fmod (j : Int) (uA g ps)) (Int.fdiv (j : Int) (uA g ps))
      have hul2 : (unitNo g ps (j : Int)).length ≤ 48 := hul
      have hm2 := List.mem_cons_of_mem (sp, listOf #[.int x tx, .int y ty] n) (List.mem_cons_of_mem (tl, LCg.lst ys) hm)
      have hdm2 := List.mem_cons_of_mem (sp, listOf #[.int x tx, .int y ty] n) (List.mem_cons_of_mem (tl, LCg.lst ys) dm)
      have htl : (tl, LCg.lst ys) ∈ (sp, listOf #[.int x tx, .int y ty] n) :: (tl, LCg.lst ys) :: T6 := List.mem_cons_of_mem _ List.mem_cons_self
      generalize hnx : (sp, listOf #[.int x tx, .int y ty] n) :: (tl, LCg.lst ys) :: T6 = nx at hm2 hdm2 htl F4 N4 off4 ⊢
      have htk := lensOf_take (g := g) (ps := ps) hjN
      k_steps
      rw [htk]
      exact hi2.append (.cons _ _ .nil)
    case fin =>
      rintro ys2 nx ⟨rfl, hi2⟩ D2 h5 tk5 F5 N5 o5
      have hls : (lensOf g ps Nn).length = Nn := by simp [lensOf]
      rw [List.take_of_length_le (by rw [hls, List.size_toArray, hyl]; exact Nat.le_refl _)] at hi2
      have hsum := due_len hg hps hN
      have hee := dE.length
      k_steps
      all_goals first
        | (exfalso; rename_i hq; exact hq (by rw [hsum, hee]))
        | (rename_i F' N' _ _ _; exact F')
        | (rename_i N' _ _ _; exact fun q hq => N' q (List.mem_cons_of_mem _ hq))
  case k1 =>
    rintro s1 ⟨h, tk, rfl, F1, N1⟩
    exact k h tk F1 N1
end
end
-- L5
local macro_rules | `(tactic| walk_at "exec For Name Call cons nil") => `(tactic| (k_here; (rename Fr _ _ _ _ => lF'); (with_unfolding_all refine' For_mine lF' (by exact rfl) (by exact rfl) ?_ (by intro _; rfl) (by assumption); k_whole)))

/-- law's names behind its loop -/
def mapLoop (u m₀ : Str → Option Value) : Str → Option Value := fun y => if y = Str.ofString "number" then u y else kstB (fun z => if [Str.ofString "spot", Str.ofString "at", Str.ofString "place", Str.ofString "x", Str.ofString "y"].contains z = true then u z else m₀ z) [] y
section
variable {prog : Program} {w : World} {A : Around} {E : Value → Shared → Prop} {s : Shared} {h₀ : Heap} {L d : Addr} {news : List (Addr × Obj)} {o : Obj} {xs : List (List Int × Addr × Value)}
theorem method_get {pl : Sem Bool} {Q : Value × List Value → Shared → Prop} (N : News h₀ L s.heap news) (hm : (d, o) ∈ news) (TD : TDict prog w o xs) (h : Q (.builtin "dict.get", [.ref d]) s) : wpAny (model prog w) A (getMethod (.ref d) "get" pl) Q E s :=
  getMethod_builtin ⟨o, (N _ hm).1, TD.1.1⟩ PySem.F.plainAttrs_dict PySem.F.slot_dict_get PySem.F.type_dict_get (fun b e => by cases e; exact ⟨o, (N _ hm).1, TD.1.2.1⟩) h
end
theorem EntsIn.get {l : List (Addr × Obj)} : ∀ {xs : List (List Int × Addr × Value)} {es : List Ent}, EntsIn l xs es → ∀ {i : Nat} {e : Ent}, es[i]? = some e → ∃ a v, xs[i]? = some (Ent.key e, a, v) ∧ DatIn l v (.tuple [.int e.2.1, .int e.2.2])
  | [], [], _, i, e, h => by simp at h
  | x :: xs, e' :: es, h, 0, e, he => by
    simp at he
    subst he
    refine ⟨x.2.1, x.2.2, ?_, h.1.2.2⟩
    rw [← h.1.2.1]
    rfl
  | x :: xs, e' :: es, h, i + 1, e, he => by simpa using EntsIn.get h.2 (i := i) (by simpa using he)
  | [], _ :: _, h, _, _, _ => h.elim
  | _ :: _, [], h, _, _, _ => h.elim
theorem datIn_two {l : List (Addr × Obj)} {v : Value} {a b : Int} (h : DatIn l v (.tuple [.int a, .int b])) : ∃ (t : Addr) (n : Nat) (t0 t1 : Tok), v = .ref t ∧ (t, ({ cls := .type "tuple", data := .seq #[.int a t0, .int b t1] n } : Obj)) ∈ l := by
  cases h with
  | tuple hm ha =>
    cases ha with
    | cons a0 ha =>
      cases ha with
      | cons a1 ha =>
        cases ha with
        | nil =>
          cases a0 with
          | int _ t0 =>
            cases a1 with
            | int _ t1 => exact ⟨_, _, t0, t1, rfl, hm⟩
local macro_rules | `(tactic| walk_at "getMethod ref") => `(tactic| (k_here; (with_reducible show wpAny _ _ (getMethod (Value.ref _) (Str.ofString "get") _) _ _ _); k_dflt (refine' method_get (by k_asm) (by k_mem) (by assumption) ?_; k_whole)))
local macro_rules | `(tactic| walk_at "call builtin:dict.get") => `(tactic| (k_here; (try simp only [List.cons_append, List.nil_append]); (with_reducible show wpAny _ _ (call (Value.builtin "dict.get") [Value.ref _, Value.ref _]) _ _ _); k_dflt (refine' get_in (k := [_, _, _]) (by k_asm) (by k_mem) (by assumption) (by exact ⟨[_, _, _], _, by k_mem, .cons _ _ (.cons _ _ (.cons _ _ .nil))⟩) (by exact keys_mono (by assumption) (by lcg_sub)) (by assumption) (by ktr_units) (by assumption) ?_; k_whole); intro tk'))
section
variable {w : World} {mean : ExcName → Option Value} {mg mb : Str → Option Value} {dp un : Nat} {gd : Option (List Code)} {cn : Str} {cs : Scope} {a : Addr} {ccd : Value} {cl : List (Str × Addr)} {outer : List Env} {A₀ : Around} {base h₀ : Heap} {L : Addr} {m : Str → Option Value} {s : Shared} {Q : Flow → Shared → Prop} {E : Value → Shared → Prop} {news : List (Addr × Obj)}
  {name qual : Str} {params : Arguments} {body : List Stmt} {dV kV doc pm cdv ct oc : Value} {an od : Option Addr} {osl : Array (Option Value)}

set_option maxHeartbeats 8000000 in
theorem law_five {l sp fr lo sc bf d tl : Addr} {x y : Int} {tx ty t : Tok} {n Nn on : Nat} {g : Geo} {ps : List Int} {ys ovs : List Value} {T6 : List (Addr × Obj)} (hlook : (hd.heap_1 w.params).lookup 238 = some ⟨oc, od, .func (fnOf name qual params body cs dV kV doc pm an cdv ct), osl⟩) (B : Below A₀ base outer h₀) (F : Fr h₀ L s.heap (mapTold l sp fr lo sc bf d (uA g ps * uD g ps) t tl)) (X : (hd.heap_1 w.params).In h₀) (N : News h₀ L s.heap ((sp, listOf #[.int x tx, .int y ty] n) :: (tl, LCg.lst ys) :: T6)) (T : Top lview (looseW lview []) mean mg mb h₀) (hk : cs.kind = .function)
    (hdp : dp + 40 < recursionLimit) (hun : un + 320 < cLine)
    (hE : PassesOwn (model PySem.Challenge.rw_pf0231_01.row.prog w) (ktrTop dp un gd cn cs L a ccd cl outer) (envX cn cs L a ccd cl) E) (hg : g.Ok) (hlo : (lo, listOf ovs.toArray on) ∈ T6) (hia : IntsAre ovs ps) (hps : PlacesOk g.comps.length ps) (hN : (Nn : Int) = uA g ps * uD g ps) (du : DueIn w T6 d (dueEnts g ps)) (hy : DatAll T6 ys (unitsD g ps Nn))
    (k : ∀ (h : Heap) (tk : Nat) (u : Str → Option Value), Fr h₀ L h (mapLoop u (mapTold l sp fr lo sc bf d (uA g ps * uD g ps) t tl)) → News h₀ L h ((sp, listOf #[.int x tx, .int y ty] n) :: (tl, LCg.lst ys) :: T6) →
      wpAny (model PySem.Challenge.rw_pf0231_01.row.prog w) (ktrTop dp un gd cn cs L a ccd cl outer) (execs (body.drop 8) (envX cn cs L a ccd cl)) Q E { s with heap := h, toks := tk }) :
    wpAny (model PySem.Challenge.rw_pf0231_01.row.prog w) (ktrTop dp un gd cn cs L a ccd cl outer) (execs (body.drop 7) (envX cn cs L a ccd cl)) Q E s := by
  w_on
  have hz : PySem.Challenge.rw_pf0231_01 = PySem.Challenge.rw_pf0231_01 ∧ hd.heap_1 = hd.heap_1 := by
    k_fill
    exact ⟨rfl, rfl⟩
  clear hz
  refine' look_eq hlook ?e ?_
  case e => k_is
  intro hz2
  cases hz2
  have hA := uA_bounds hg hps
  have hD := uD_bounds hg hps
  have hbb := mul_bounds hA hD
  obtain ⟨oD, xs, dm, dT, dE, dS⟩ := du
  have hyl : ys.length = Nn := by rw [datAll_length hy]; simp [unitsD]
  have hol : ovs.length = ps.length := hia.length
  have hpl := hps.len
  have hl3 := hg.len
  obtain ⟨T0, hT0⟩ : ∃ T0, T0 = (sp, listOf #[.int x tx, .int y ty] n) :: (tl, LCg.lst ys) :: T6 := ⟨_, rfl⟩
  have hsub6 : ∀ q ∈ T6, q ∈ T0 := fun q hq => by rw [hT0]; exact List.mem_cons_of_mem _ (List.mem_cons_of_mem _ hq)
  have htl : (tl, listOf ys.toArray ys.length) ∈ T0 := by rw [hT0]; exact List.mem_cons_of_mem _ List.mem_cons_self
  rw [← hT0] at N k
  replace hlo := hsub6 _ hlo
  replace dm := hsub6 _ dm
  replace dE := dE.mono hsub6
  replace hy := hy.mono hsub6
  have dK := dE.keysIn
  have hia2 : IntsAre ovs ps := hia
  have dN := dT.nodup
  clear hsub6 hT0
  refine stmt_step (R := fun s' => ∃ (h : Heap) (tk : Nat) (u : Str → Option Value), s' = { s with heap := h, toks := tk } ∧ Fr h₀ L h (mapLoop u (mapTold l sp fr lo sc bf d (uA g ps * uD g ps) t tl)) ∧ News h₀ L h T0) ?a1 ?k1
  case k1 =>
    rintro s1 ⟨h, tk, u, rfl, F1, N1⟩
    exact k h tk u F1 N1
  case a1 =>
    clear k
    unfold mapTold mapDue at F ⊢
    k_steps
    rename_i hR hF hN2 hK
    unfold MyLoop
    refine for_rng (σ := Unit) (n := Nn) (fun _ => []) [] (fun _ => []) (fun _ => []) [Str.ofString "spot", Str.ofString "at", Str.ofString "place", Str.ofString "x", Str.ofString "y"] (fun _ _ => True) T0 () rfl hR (small_one (by omega) (by omega) (by omega) (by omega)) (by rw [rangeSize_toNat (by omega)]; omega) hF hN2 (fun _ h => h) (fun _ => rfl)
      (fun _ _ h => nomatch h) (fun _ h => nomatch h) (fun _ h => nomatch h) trivial ?turn ?done
    case turn =>
      intro i c T' u t1 h1 tk1 hi _ _ _ hT F3 N3
      simp only [Int.zero_add, List.nil_append] at F3 N3
      obtain ⟨v, vs, vn, hyi, hm, hall⟩ : ∃ v vs vn, ys[((i : Nat) : Int).toNat]? = some (.ref v) ∧ (v, listOf vs.toArray vn) ∈ T' ∧ DatAll T' vs ((unitNo g ps (i : Int)).map blkD) := by
        have hz : ys[i]? = some (ys[i]'(by omega)) := List.getElem?_eq_getElem (by omega)
        obtain ⟨db, hdb, hdi⟩ := datAll_get hy hz
        unfold unitsD at hdb
        rw [List.getElem?_map, List.getElem?_range hi] at hdb
        obtain rfl := Option.some.inj hdb
        cases hq : (ys[i]'(by omega)) with
        | ref v =>
          rw [hq] at hdi hz
          obtain ⟨vs, vn, hm, hall⟩ := datIn_list hdi
          exact ⟨v, vs, vn, by simpa using hz, hT _ hm, hall.mono hT⟩
        | _ => rw [hq] at hdi; unfold unitD at hdi; cases hdi
      have hvn : (vs.length : Int) = ((unitNo g ps (i : Int)).length : Int) := by rw [datAll_length hall, List.length_map]
      have hul2 : (unitNo g ps (i : Int)).length ≤ 48 := unitBs_len_le hg hps _ _
      have hiN : (i : Int) < 100000 := by omega
      have htl2 := hT _ htl
      k_steps
      rename_i hR2 hF3 hN3 hK3
      unfold MyLoop
      refine for_rng (σ := Unit) (n := (unitNo g ps (i : Int)).length) (fun _ => []) [] (fun _ => []) (fun _ => []) [Str.ofString "at", Str.ofString "place", Str.ofString "x", Str.ofString "y"] (fun _ _ => True) T' () rfl hR2 (small_one (by omega) (by omega) (by omega) (by omega)) (rangeSize_nat _ _) hF3 hN3 (fun _ h => h) (fun _ => rfl)
        (fun _ _ h => nomatch h) (fun _ h => nomatch h) (fun _ h => nomatch h) trivial ?turn2 ?done2
      case turn2 =>
        intro j c2 T2 u2 t2 h2 tk2 hj _ _ _ hT2 F4 N4
        simp only [Int.zero_add, List.nil_append] at F4 N4
        obtain ⟨⟨ba, bp, bx, by'⟩, hb⟩ : ∃ b, (unitNo g ps (i : Int))[j]? = some b := ⟨_, List.getElem?_eq_getElem hj⟩
        obtain ⟨⟨kk, hkk⟩, hb0, hb1, hb2⟩ := due_at hg hps (by omega) hb
        dsimp only at hkk hb0 hb1 hb2
        obtain ⟨va, vv, hxk, hvd⟩ := dE.get hkk
        obtain ⟨tv, tvn, s0, s1, rfl, htv⟩ := datIn_two hvd
        obtain ⟨tt, ttn, c0, c1, c2', c3, hvj, htt⟩ : ∃ tt ttn c0 c1 c2 c3, vs[((j : Nat) : Int).toNat]? = some (.ref tt) ∧ (tt, ({ cls := .type "tuple", data := .seq [.int ba c0, .int bp c1, .int bx c2, .int by' c3].toArray ttn } : Obj)) ∈ T' := by
          have hz : vs[j]? = some (vs[j]'(by omega)) := List.getElem?_eq_getElem (by omega)
          obtain ⟨db, hdb, hdi⟩ := datAll_get hall hz
          rw [List.getElem?_map, hb] at hdb
          obtain rfl := Option.some.inj hdb
          obtain ⟨tt, ttn, c0, c1, c2, c3, e, hm⟩ := datIn_blk hdi
          rw [e] at hz
          exact ⟨tt, ttn, c0, c1, c2, c3, by simpa using hz, hm⟩
        have hval : ((atKey xs [bp, bx, by']).map (·.2)).getD .none = .ref tv := by
          have hxk' : xs[kk]? = some ([bp, bx, by'], va, .ref tv) := hxk
          rw [atKey_of_get dN hxk']
          rfl
        obtain ⟨op, hop⟩ := hia.get ba.toNat bp hb2
        have dK2 := keys_mono dK fun q hq => hT2 _ (hT _ hq)
        have dm2 := hT2 _ (hT _ dm)
        have htv2 := hT2 _ (hT _ htv)
        have htt2 := hT2 _ htt
        have hm2 := hT2 _ hm
        have htl3 := hT2 _ htl2
        have hlo3 := hT2 _ (hT _ hlo)
        have hjj : (j : Int) < 100 := by omega
        have hbb2 : ba < 100 := by omega
        clear dK hxk hkk
        k_steps
        · rename_i hq
          exact absurd rfl hq
        · rename_i h9 F9 N9 _ _
          refine ⟨(), [], h9, _, _, rfl, F9, fun q hq => N9 q (List.mem_cons_of_mem _ (List.mem_cons_of_mem _ hq)), (fun _ h => nomatch h), Apart.nil, (fun _ h => nomatch h), (fun _ h => nomatch h), ?_, trivial⟩
          intro z e1 _ e3
          simp only [List.contains_cons, List.contains_nil, Bool.or_false, Bool.or_eq_false_iff, beq_eq_false_iff_ne] at e3
          simp [kstB, e1, e3]
      case done2 =>
        intro c2 new2 u2 h2 tk2 _ _ hap2 _ F4 N4
        simp only [List.nil_append] at N4
        k_steps
        refine ⟨(), [], h2, _, _, rfl, F4, fun q hq => N4 q (List.mem_append.mpr (.inr hq)), (fun _ h => nomatch h), Apart.nil, (fun _ h => nomatch h), (fun _ h => nomatch h), ?_, trivial⟩
        intro z e1 _ e3
        simp only [List.contains_cons, List.contains_nil, Bool.or_false, Bool.or_eq_false_iff, beq_eq_false_iff_ne] at e3
        simp [kstB, e1, e3]
    case done =>
      intro c new u h tk _ _ hap _ F3 N3
      simp only [List.nil_append] at N3
      exact ⟨rfl, h, tk, u, rfl, F3, fun q hq => N3 q (List.mem_append.mpr (.inr hq))⟩
end
-- L6
section
variable {prog : Program} {w : World} {A : Around} {E : Value → Shared → Prop} {s : Shared} {h₀ : Heap} {L : Addr} {news l₁ l₂ : List (Addr × Obj)} {a b : Value} {d : Dat} {Q : Value → Shared → Prop}
theorem dat_eq (N : News h₀ L s.heap news) (Da : DatIn l₁ a d) (sa : ∀ p ∈ l₁, p ∈ news) (Db : DatIn l₂ b d) (sb : ∀ p ∈ l₂, p ∈ news) (hk : kqdOk 8 d = true) (hu : A.units + 64 < cLine) (h : Q (.bool true) s) : wpAny (model prog w) A (compareOp .Eq a b) Q E s := by
  obtain ⟨as, ra⟩ := kqd_in N 8 (Da.mono sa) hk
  obtain ⟨bs, rb⟩ := kqd_in N 8 (Db.mono sb) hk
  have l := kqd_lay 8 d hk
  have hs : SeqAt.shaped (kqdP d) = true := by
    unfold SeqAt.shaped
    rw [l.1, Bool.true_and]
    exact decide_eq_true (Nat.le_trans l.2 (by decide))
  have e : PyData.eqv (kqdP d) (kqdP d) = true := (kqd_eqv 8 d d 8 hk hk).mpr rfl
  exact eq_dataH ra rb hs hs hu (by rw [e]; exact h)
end
theorem unitD_ok (g : Geo) (ps : List Int) (i : Nat) : kqdOk 8 (unitD g ps i) = true := by
  simp [unitD, kqdOk, blkD]
theorem rowD_ok (g : Geo) (ps : List Int) : kqdOk 8 (rowD g ps) = true := by
  simp [rowD, kqdOk, cmpD]
local macro_rules | `(tactic| walk_at "call ref") => `(tactic| (k_here; (with_reducible show wpAny _ _ (call (Value.ref 56) _) _ _ _); k_dflt (refine' unit_numbered_spec (by k_asm) (by k_asm) (by k_asm) (by k_asm) (by k_asm) (by first | exact rfl | assumption) (by ktr_room) (by ktr_units) (by first | assumption | exact FrameIn.mono (by assumption) (by lcg_sub)) (by assumption) (by first | assumption | exact ScanIn.mono (by assumption) (by lcg_sub)) (by assumption) (by assumption) ?_; k_whole); intro r' new' h' tk' F' N' ap' di'; (try k_fold)))
local macro_rules | `(tactic| walk_at "compareOp Eq ref ref") => `(tactic| (k_here; (with_reducible show wpAny _ _ (compareOp CmpOp.Eq (Value.ref _) (Value.ref _)) _ _ _); k_dflt (refine' dat_eq ?k1 ?k2 ?k3 ?k4 ?k5 ?k6 ?k7 ?_; (case k1 => k_asm); (case k2 => assumption); (case k4 => assumption); (case k3 => first | lcg_sub | (intro p hp; simp [hp])); (case k5 => first | lcg_sub | (intro p hp; simp [hp])); (case k6 => assumption); (case k7 => ktr_units); k_whole)))
section
local macro_rules | `(tactic| walk_at "CompSrc") => `(tactic| (k_here; refine stop_here ?_))
section
variable {w : World} {mean : ExcName → Option Value} {mg mb : Str → Option Value} {dp un : Nat} {gd : Option (List Code)} {cn : Str} {cs : Scope} {a : Addr} {ccd : Value} {cl : List (Str × Addr)} {outer : List Env} {A₀ : Around} {base h₀ : Heap} {L : Addr} {m : Str → Option Value} {s : Shared} {Q : Flow → Shared → Prop} {E : Value → Shared → Prop} {news : List (Addr × Obj)}
  {name qual : Str} {params : Arguments} {body : List Stmt} {dV kV doc pm cdv ct oc : Value} {an od : Option Addr} {osl : Array (Option Value)}

set_option maxHeartbeats 8000000 in
theorem law_six {l sp fr lo sc bf d tl : Addr} {x y : Int} {tx ty t : Tok} {n Nn on : Nat} {g : Geo} {ps : List Int} {ys ovs : List Value} {T6 : List (Addr × Obj)} {u : Str → Option Value} (hlook : (hd.heap_1 w.params).lookup 238 = some ⟨oc, od, .func (fnOf name qual params body cs dV kV doc pm an cdv ct), osl⟩) (B : Below A₀ base outer h₀) (F : Fr h₀ L s.heap (mapLoop u (mapTold l sp fr lo sc bf d (uA g ps * uD g ps) t tl))) (X : (hd.heap_1 w.params).In h₀) (N : News h₀ L s.heap ((sp, listOf #[.int x tx, .int y ty] n) :: (tl, LCg.lst ys) :: T6)) (T : Top lview (looseW lview []) mean mg mb h₀) (hk : cs.kind = .function)
    (hdp : dp + 40 < recursionLimit) (hun : un + 320 < cLine)
    (hx : 0 ≤ x) (hy : 0 ≤ y) (hy2 : y < 4294967296) (hne : ∀ p ∈ T6, p.1 ≠ sp) (htl : tl ≠ sp) (hf : FrameIn w T6 fr g) (hg : g.Ok) (hps : PlacesOk g.comps.length ps) (hs : ScanIn w T6 sc ps) (hN : (Nn : Int) = uA g ps * uD g ps) (hrow : DatIn T6 (.ref bf) (rowD g ps)) (hyd : DatAll T6 ys (unitsD g ps Nn))
    (k : ∀ (h : Heap) (tk : Nat) (m' : Str → Option Value), Fr h₀ L h m' → Q (.ret (.bool true)) { s with heap := h, toks := tk }) :
    wpAny (model PySem.Challenge.rw_pf0231_01.row.prog w) (ktrTop dp un gd cn cs L a ccd cl outer) (execs (body.drop 8) (envX cn cs L a ccd cl)) Q E s := by
  w_on
  have hz : PySem.Challenge.rw_pf0231_01 = PySem.Challenge.rw_pf0231_01 ∧ hd.heap_1 = hd.heap_1 := by
    k_fill
    exact ⟨rfl, rfl⟩
  clear hz
  refine' look_eq hlook ?e ?_
  case e => k_is
  intro hz2
  cases hz2
  have hA := uA_bounds hg hps
  have hD := uD_bounds hg hps
  have hbb := mul_bounds hA hD
  have hyl : ys.length = Nn := by rw [datAll_length hyd]; simp [unitsD]
  have hp3 : ps.length ≤ 3 := by
    have := hps.len
    have := hg.len
    omega
  refine stmt_step (R := fun s' => ∃ (h : Heap) (tk : Nat) (x y : Int) (tx ty : Tok) (k : Nat) (tn : Tok), k < Nn ∧ s' = { s with heap := h, toks := tk } ∧ Fr h₀ L h (fun z => if z = Str.ofString "number" then some (.int (k : Int) tn) else mapLoop u (mapTold l sp fr lo sc bf d (uA g ps * uD g ps) t tl) z) ∧ News h₀ L h ((sp, listOf #[.int x tx, .int y ty] n) :: (tl, LCg.lst ys) :: T6)) ?a1 ?k1
  case a1 =>
    unfold mapLoop mapTold mapDue at F ⊢
    k_steps
    rename_i v t' x' y' tx' ty' _ _ hv1 hv2 hx1 hy1 hy2 h F N
    refine ⟨trivial, h, _, x', y', tx', ty', v.toNat, t', by omega, rfl, ?_, N⟩
    rw [show ((v.toNat : Nat) : Int) = v by omega]
    exact F
  case k1 =>
    clear hx hy hy2
    rintro s1 ⟨h1, tk1, x1, y1, tx1, ty1, kn, tn, hkn, rfl, F1, N1⟩
    clear F N
    obtain ⟨v, vs, vn, hyi, hm, hall⟩ : ∃ v vs vn, ys[((kn : Nat) : Int).toNat]? = some (.ref v) ∧ (v, listOf vs.toArray vn) ∈ T6 ∧ DatAll T6 vs ((unitNo g ps (kn : Int)).map blkD) := by
      have hz : ys[kn]? = some (ys[kn]'(by omega)) := List.getElem?_eq_getElem (by omega)
      obtain ⟨db, hdb, hdi⟩ := datAll_get hyd hz
      unfold unitsD at hdb
      rw [List.getElem?_map, List.getElem?_range hkn] at hdb
      obtain rfl := Option.some.inj hdb
      cases hq : (ys[kn]'(by omega)) with
      | ref v =>
        rw [hq] at hdi hz
        obtain ⟨vs, vn, hm, hall⟩ := datIn_list hdi
        exact ⟨v, vs, vn, by simpa using hz, hm, hall⟩
      | _ => rw [hq] at hdi; unfold unitD at hdi; cases hdi
    have hvd : DatIn T6 (.ref v) (unitD g ps kn) := .list hm hall
    have hrk := rowD_ok g ps
    have huk := unitD_ok g ps kn
    have hi : 0 ≤ (kn : Int) ∧ (kn : Int) < uA g ps * uD g ps := by omega
    unfold mapLoop mapTold mapDue at F1
    k_steps
    rename_i r new h' tk' F2 N2 ap di
    obtain ⟨rs, rn, hrm, hrall⟩ := datIn_list di
    have hrl : rs.length = (unitNo g ps (kn : Int)).length := by rw [datAll_length hrall, List.length_map]
    have hul : (unitNo g ps (kn : Int)).length ≤ 48 := unitBs_len_le hg hps _ _
    unfold Stop
    refine LCg.CompSrc.ledger (its := rs.toArray) (k := rn) rfl F2 N2 (List.mem_append.mpr (.inl hrm)) (by rw [List.size_toArray, sizeLine_eq]; omega) (fun g' => ?_)
    refine compRest_inv rs.toArray.size (fun j ys2 nx => nx = new ++ (sp, listOf #[.int x1 tx1, .int y1 ty1] n) :: (tl, LCg.lst ys) :: T6 ∧ ys2 = rs.take j) ?step ?fin _ 0 [] _ rfl ⟨rfl, rfl⟩
    case step =>
      intro j ys2 nx v2 I oI C2 oC2 D2 m3 hh tk3 E3 hj hinv hv2 hC2 hx2 F4 N4 off4 ne4
      obtain ⟨rfl, rfl⟩ := hinv
      obtain ⟨db, hdb, hdi⟩ := datAll_get hrall (by simpa using hv2)
      obtain ⟨b, hb, rfl⟩ : ∃ b, (unitNo g ps (kn : Int))[j]? = some b ∧ blkD b = db := by
        rw [List.getElem?_map] at hdb
        cases e : (unitNo g ps (kn : Int))[j]? with
        | none => rw [e] at hdb; cases hdb
        | some b => rw [e] at hdb; exact ⟨b, rfl, Option.some.inj hdb⟩
      obtain ⟨tt, ttn, t0, t1, t2, t3, rfl, htm⟩ := datIn_blk hdi
      have htl2 : _ ∈ new ++ (sp, listOf #[.int x1 tx1, .int y1 ty1] n) :: (tl, LCg.lst ys) :: T6 := List.mem_append.mpr (.inl htm)
      have hvm : _ ∈ new ++ (sp, listOf #[.int x1 tx1, .int y1 ty1] n) :: (tl, LCg.lst ys) :: T6 := List.mem_append.mpr (.inl hrm)
      have htk : rs.take (j + 1) = rs.take j ++ [.ref tt] := by rw [List.take_add_one, (by simpa using hv2 : rs[j]? = some (.ref tt))]; rfl
      generalize hnx : new ++ (sp, listOf #[.int x1 tx1, .int y1 ty1] n) :: (tl, LCg.lst ys) :: T6 = nx at htl2 hvm F4 N4 off4 ⊢
      k_steps
      exact htk.symm
    case fin =>
      rintro ys2 nx ⟨rfl, rfl⟩ D2 h5 tk5 F5 N5 o5
      rw [List.take_of_length_le (by simp)] at N5
      have hDd : DatIn ((D2, LCg.lst rs) :: new) (.ref D2) (unitD g ps kn) := .list (vs := rs) (n := rs.length) List.mem_cons_self (hrall.mono fun q hq => List.mem_cons_of_mem _ hq)
      k_steps
      rename_i F9 _ _ _
      exact k _ _ _ F9
end
end
-- L7
section
variable {w : World} {mean : ExcName → Option Value} {mg mb : Str → Option Value} {dp un : Nat} {gd : Option (List Code)} {cn : Str} {cs : Scope} {a : Addr} {ccd : Value} {cl : List (Str × Addr)} {outer : List Env} {A₀ : Around} {base h₀ : Heap} {L : Addr} {m : Str → Option Value} {s : Shared} {Q : Flow → Shared → Prop} {E : Value → Shared → Prop} {news : List (Addr × Obj)}
  {name qual : Str} {params : Arguments} {body : List Stmt} {dV kV doc pm cdv ct oc : Value} {an od : Option Addr} {osl : Array (Option Value)}

theorem law_all {l : Addr} {vs : List Value} {ns : List Int} (hlook : (hd.heap_1 w.params).lookup 238 = some ⟨oc, od, .func (fnOf name qual params body cs dV kV doc pm an cdv ct), osl⟩) (B : Below A₀ base outer h₀) (F : Fr h₀ L s.heap (fun y => List.lookup y [(Str.ofString "script", Value.ref l)])) (X : (hd.heap_1 w.params).In h₀) (N : News h₀ L s.heap []) (T : Top lview (looseW lview []) mean mg mb h₀) (hk : cs.kind = .function)
    (hdp : dp + 40 < recursionLimit) (hun : un + 320 < cLine)
    (hL : L = h₀.objs.size) (hgens : s.gens = #[]) (hE : PassesOwn (model PySem.Challenge.rw_pf0231_01.row.prog w) (ktrTop dp un gd cn cs L a ccd cl outer) (envX cn cs L a ccd cl) E) (hl : base.IsList l vs.toArray) (hi : IntsAre vs ns) (hz : ns.length ≤ 63)
    (k : ∀ h tk m', Fr h₀ L h m' → Q (.ret (.bool true)) { s with heap := h, gens := #[.finished], toks := tk }) :
    wpAny (model PySem.Challenge.rw_pf0231_01.row.prog w) (ktrTop dp un gd cn cs L a ccd cl outer) (execs body (envX cn cs L a ccd cl)) Q E s := by
  refine law_one hlook B F X N T hk hdp hun hl hi hz ?_
  intro h1 tk1 sp x y tx ty n fr g lo ovs on ps sc T4 hx hy hy2 F1 N1 hne hf hg hlo hia hps hs
  have hA := uA_bounds hg hps
  have hD := uD_bounds hg hps
  have hbb := mul_bounds hA hD
  obtain ⟨Nn, hN⟩ : ∃ Nn : Nat, (Nn : Int) = uA g ps * uD g ps := ⟨(uA g ps * uD g ps).toNat, by omega⟩
  refine law_two hlook B F1 X N1 T hk hdp hun hne hf hg hlo hia hps hs ?_
  intro h2 tk2 bf d t T5 F2 N2 hne5 hsub di du
  have hf5 := hf.mono hsub
  have hs5 := hs.mono hsub
  refine law_three hlook B F2 X N2 T hk hdp hun hL hgens hne5 hf5 hg hps hs5 hN ?_
  intro h3 tk3 tl ys T6 F3 N3 hne6 htl htl6 hsub6 hyd
  have hf6 := hf5.mono hsub6
  have hs6 := hs5.mono hsub6
  have du6 := du.mono hsub6
  refine law_four hlook B F3 X N3 T hk hdp hun hf6 hg hps hs6 hN du6 hyd ?_
  intro h4 tk4 F4 N4
  refine law_five hlook B F4 X N4 T hk hdp hun hE hg (hsub6 _ (hsub _ hlo)) hia hps hN du6 hyd ?_
  intro h5 tk5 u F5 N5
  refine law_six (ovs := ovs) (on := on) hlook B F5 X N5 T hk hdp hun hx hy hy2 hne6 htl hf6 hg hps hs6 hN (di.mono hsub6) hyd ?_
  intro h tk m' F
  exact k h tk m' F
end
end Mine
-- F1
set_option maxHeartbeats 8000000 in
theorem PySem.Challenge.cw_pf0231_01_holds : PySem.Challenge.rw_pf0231_01.Holds := by
  w_on
  refine Mine.hd ?_
  lge_go0
  rename_i w0 s0 s1 mg mb G Y fa o pm doc kV ho hg KX Xm V GL T B TE TW z1 z2 M z3 z4 B0 hcd ns hs hlay hL0 hr1 hl2 z5 z6 l vs z7 hl ra w1 r0 hI hr hc1 hc2 K0 hD h1 F N lgeM
  refine wpAny_mono (Q := fun f s' => f = .ret (.bool true) ∧ (∃ m', Fr s1.heap s1.heap.objs.size s'.heap m') ∧ s'.gens = #[.finished] ∧ s'.os = s1.os) (E := fun _ _ => False) ?m (fun f s' hq => ?_) (fun _ _ e => e.elim)
  case m =>
    refine' Mine.law_all (w := w0) (s := { heap := h1, gens := s1.gens, drawn := s1.drawn, toks := _, os := s1.os }) (dp := 1 + claimMargin + 1) (un := 4 + 3) (gd := some []) (outer := []) (cl := []) ?qqe K0 F KX N T rfl ?qqd ?qqu rfl hg PassesOwn.never hl hI ?qqz ?qqk
    case qqe => k_is
    case qqd => decide
    case qqu => decide
    case qqz => omega
    case qqk =>
      intro h tk m' F9
      exact ⟨rfl, ⟨m', F9⟩, rfl, rfl⟩
  obtain ⟨rfl, ⟨m', F9⟩, hgn, hos⟩ := hq
  refine goodWG_reads B0 F9 ?qqb (raisesW_false (by wrow_none_raised)) (.bool true) unshared_nil ?qqp hos
  case qqb =>
    rw [hgn]
    intro y hy
    simp at hy
    subst hy
    rfl
  case qqp => first | wrow_post | exact postW_of (by wrow_shape) (by wtm_val) (by str_meet; first | done | w_fin)
