import PyProof.Rows.All
import Wide.All
import OpenK.AllK
import Wide.FinOn
import Lean
import PySem.Challenge.RW_rh0204_01
open PySem PySem.W PyProof.Rows PySem.Calls
set_option Elab.async false
set_option maxRecDepth 100000
set_option maxHeartbeats 8000000
set_option compiler.extract_closed false
namespace Mine
section
theorem an2 {a1 a2 G : Prop} (h : a1 ∧ a2) (k : a1 → a2 → G) : G := k (h.1) (h.2)
theorem an3 {a1 a2 a3 G : Prop} (h : a1 ∧ a2 ∧ a3) (k : a1 → a2 → a3 → G) : G := k (h.1) (h.2.1) (h.2.2)
theorem an4 {a1 a2 a3 a4 G : Prop} (h : a1 ∧ a2 ∧ a3 ∧ a4) (k : a1 → a2 → a3 → a4 → G) : G := k (h.1) (h.2.1) (h.2.2.1) (h.2.2.2)
theorem an5 {a1 a2 a3 a4 a5 G : Prop} (h : a1 ∧ a2 ∧ a3 ∧ a4 ∧ a5) (k : a1 → a2 → a3 → a4 → a5 → G) : G := k (h.1) (h.2.1) (h.2.2.1) (h.2.2.2.1) (h.2.2.2.2)
theorem an6 {a1 a2 a3 a4 a5 a6 G : Prop} (h : a1 ∧ a2 ∧ a3 ∧ a4 ∧ a5 ∧ a6) (k : a1 → a2 → a3 → a4 → a5 → a6 → G) : G := k (h.1) (h.2.1) (h.2.2.1) (h.2.2.2.1) (h.2.2.2.2.1) (h.2.2.2.2.2)
theorem an7 {a1 a2 a3 a4 a5 a6 a7 G : Prop} (h : a1 ∧ a2 ∧ a3 ∧ a4 ∧ a5 ∧ a6 ∧ a7) (k : a1 → a2 → a3 → a4 → a5 → a6 → a7 → G) : G := k (h.1) (h.2.1) (h.2.2.1) (h.2.2.2.1) (h.2.2.2.2.1) (h.2.2.2.2.2.1) (h.2.2.2.2.2.2)
theorem an8 {a1 a2 a3 a4 a5 a6 a7 a8 G : Prop} (h : a1 ∧ a2 ∧ a3 ∧ a4 ∧ a5 ∧ a6 ∧ a7 ∧ a8) (k : a1 → a2 → a3 → a4 → a5 → a6 → a7 → a8 → G) : G := k (h.1) (h.2.1) (h.2.2.1) (h.2.2.2.1) (h.2.2.2.2.1) (h.2.2.2.2.2.1) (h.2.2.2.2.2.2.1) (h.2.2.2.2.2.2.2)
theorem an9 {a1 a2 a3 a4 a5 a6 a7 a8 a9 G : Prop} (h : a1 ∧ a2 ∧ a3 ∧ a4 ∧ a5 ∧ a6 ∧ a7 ∧ a8 ∧ a9) (k : a1 → a2 → a3 → a4 → a5 → a6 → a7 → a8 → a9 → G) : G := k (h.1) (h.2.1) (h.2.2.1) (h.2.2.2.1) (h.2.2.2.2.1) (h.2.2.2.2.2.1) (h.2.2.2.2.2.2.1) (h.2.2.2.2.2.2.2.1) (h.2.2.2.2.2.2.2.2)
theorem an10 {a1 a2 a3 a4 a5 a6 a7 a8 a9 a10 G : Prop} (h : a1 ∧ a2 ∧ a3 ∧ a4 ∧ a5 ∧ a6 ∧ a7 ∧ a8 ∧ a9 ∧ a10) (k : a1 → a2 → a3 → a4 → a5 → a6 → a7 → a8 → a9 → a10 → G) : G := k (h.1) (h.2.1) (h.2.2.1) (h.2.2.2.1) (h.2.2.2.2.1) (h.2.2.2.2.2.1) (h.2.2.2.2.2.2.1) (h.2.2.2.2.2.2.2.1) (h.2.2.2.2.2.2.2.2.1) (h.2.2.2.2.2.2.2.2.2)
theorem an11 {a1 a2 a3 a4 a5 a6 a7 a8 a9 a10 a11 G : Prop} (h : a1 ∧ a2 ∧ a3 ∧ a4 ∧ a5 ∧ a6 ∧ a7 ∧ a8 ∧ a9 ∧ a10 ∧ a11) (k : a1 → a2 → a3 → a4 → a5 → a6 → a7 → a8 → a9 → a10 → a11 → G) : G := k (h.1) (h.2.1) (h.2.2.1) (h.2.2.2.1) (h.2.2.2.2.1) (h.2.2.2.2.2.1) (h.2.2.2.2.2.2.1) (h.2.2.2.2.2.2.2.1) (h.2.2.2.2.2.2.2.2.1) (h.2.2.2.2.2.2.2.2.2.1) (h.2.2.2.2.2.2.2.2.2.2)
theorem an12 {a1 a2 a3 a4 a5 a6 a7 a8 a9 a10 a11 a12 G : Prop} (h : a1 ∧ a2 ∧ a3 ∧ a4 ∧ a5 ∧ a6 ∧ a7 ∧ a8 ∧ a9 ∧ a10 ∧ a11 ∧ a12) (k : a1 → a2 → a3 → a4 → a5 → a6 → a7 → a8 → a9 → a10 → a11 → a12 → G) : G := k (h.1) (h.2.1) (h.2.2.1) (h.2.2.2.1) (h.2.2.2.2.1) (h.2.2.2.2.2.1) (h.2.2.2.2.2.2.1) (h.2.2.2.2.2.2.2.1) (h.2.2.2.2.2.2.2.2.1) (h.2.2.2.2.2.2.2.2.2.1) (h.2.2.2.2.2.2.2.2.2.2.1) (h.2.2.2.2.2.2.2.2.2.2.2)
theorem an13 {a1 a2 a3 a4 a5 a6 a7 a8 a9 a10 a11 a12 a13 G : Prop} (h : a1 ∧ a2 ∧ a3 ∧ a4 ∧ a5 ∧ a6 ∧ a7 ∧ a8 ∧ a9 ∧ a10 ∧ a11 ∧ a12 ∧ a13) (k : a1 → a2 → a3 → a4 → a5 → a6 → a7 → a8 → a9 → a10 → a11 → a12 → a13 → G) : G := k (h.1) (h.2.1) (h.2.2.1) (h.2.2.2.1) (h.2.2.2.2.1) (h.2.2.2.2.2.1) (h.2.2.2.2.2.2.1) (h.2.2.2.2.2.2.2.1) (h.2.2.2.2.2.2.2.2.1) (h.2.2.2.2.2.2.2.2.2.1) (h.2.2.2.2.2.2.2.2.2.2.1) (h.2.2.2.2.2.2.2.2.2.2.2.1) (h.2.2.2.2.2.2.2.2.2.2.2.2)
theorem an14 {a1 a2 a3 a4 a5 a6 a7 a8 a9 a10 a11 a12 a13 a14 G : Prop} (h : a1 ∧ a2 ∧ a3 ∧ a4 ∧ a5 ∧ a6 ∧ a7 ∧ a8 ∧ a9 ∧ a10 ∧ a11 ∧ a12 ∧ a13 ∧ a14) (k : a1 → a2 → a3 → a4 → a5 → a6 → a7 → a8 → a9 → a10 → a11 → a12 → a13 → a14 → G) : G := k (h.1) (h.2.1) (h.2.2.1) (h.2.2.2.1) (h.2.2.2.2.1) (h.2.2.2.2.2.1) (h.2.2.2.2.2.2.1) (h.2.2.2.2.2.2.2.1) (h.2.2.2.2.2.2.2.2.1) (h.2.2.2.2.2.2.2.2.2.1) (h.2.2.2.2.2.2.2.2.2.2.1) (h.2.2.2.2.2.2.2.2.2.2.2.1) (h.2.2.2.2.2.2.2.2.2.2.2.2.1) (h.2.2.2.2.2.2.2.2.2.2.2.2.2)
theorem foldT {α : Type} {M : Model} {A : Around} {t : Sem α} {Q : α → Shared → Prop} {E : Value → Shared → Prop} {s : Shared} (h : let qk := Q; let ek := E; wpAny M A t qk ek s) : wpAny M A t Q E s := h
theorem nd_snoc {α : Type} {l : List α} {a : α} (h : l.Nodup) (ha : a ∉ l) : (l ++ [a]).Nodup := List.nodup_append.mpr ⟨h, by simp, fun x hx y hy => by rw [List.mem_singleton.mp hy]; rintro rfl; exact ha hx⟩
theorem ex_snoc {α : Type} {l : List (List α)} {q : List α} {p : α} : (∃ x ∈ l ++ [q], p ∈ x) ↔ (∃ x ∈ l, p ∈ x) ∨ p ∈ q := by
  constructor
  · rintro ⟨x, hx, hp⟩
    rcases List.mem_append.mp hx with hx | hx
    · exact .inl ⟨x, hx, hp⟩
    · exact .inr (by rw [← List.mem_singleton.mp hx]; exact hp)
  · rintro (⟨x, hx, hp⟩ | hp)
    · exact ⟨x, List.mem_append_left _ hx, hp⟩
    · exact ⟨q, List.mem_append_right _ (.head _), hp⟩
theorem ap {A B : Prop} (f : A) (k : A → B) : B := k f
theorem by_keyN {H : Prop} {G : Nat → Prop} {T : Prop} (f : (H → ∀ x, G x) → T) (k : H → ∀ x, G x) : T := f k
theorem by_key {H G T : Prop} (f : (H → G) → T) (k : H → G) : T := f k
noncomputable def HaltIf : Prop := True
theorem fa {α : Type} {P : α → Prop} {a : α} {l : List α} (h : P a) (t : ∀ q ∈ l, P q) : ∀ q ∈ a :: l, P q := List.forall_mem_cons.mpr ⟨h, t⟩
theorem fapp {α : Type} {P : α → Prop} {k l : List α} (h : ∀ q ∈ k, P q) (t : ∀ q ∈ l, P q) : ∀ q ∈ k ++ l, P q := fun q hq => (List.mem_append.mp hq).elim (h q) (t q)
noncomputable def Kt (G P : Prop) : Prop := G → P
theorem cps {G : Prop} (h : ∀ P : Prop, Kt G P → P) : G := h G id
end
section
local macro_rules | `(($x : $_)) => if x.raw.isOfKind ``Lean.Parser.Term.structInst && (x.raw.find? fun s => s.getId.eraseMacroScopes == `frame).isSome then Lean.Macro.throwError "the top at once" else Lean.Macro.throwUnsupported
local macro_rules | `(tactic| o_law) => `(tactic| refine holds_law (by kernel_rfl) fun said => ?_)
open_top hd for PySem.Challenge.rw_rh0204_01
end
section
/-- what a call of the def at f, with the arguments vs over the ledger news, leaves -/
noncomputable def Con (w : World) (f : Addr) (vs : List Value) (dneed uneed : Nat) (news : List (Addr × Obj)) (Post : Value → List (Addr × Obj) → Prop) : Prop :=
  ∀ (p : Program) (loose : List Str) (mean : ExcName → Option Value) (mg mb : Str → Option Value) (dp un : Nat) (gd : Option (List Code)) (cn : Str) (cs : Scope) (a : Addr) (ccd : Value) (cl : List (Str × Addr)) (outer : List Env) (A₀ : Around) (base h₀ : Heap) (L : Addr) (m : Str → Option Value) (s : Shared) (R : Result → Shared → Prop),
    Below A₀ base outer h₀ → Fr h₀ L s.heap m → (hd.heap_1 w.params).In h₀ → News h₀ L s.heap news → Top p loose mean mg mb h₀ → cs.kind = .function → dp + dneed < recursionLimit → un + uneed < cLine →
    (∀ r news' h' tk', Fr h₀ L h' m → News h₀ L h' news' → Post r news' → R (.ok (.ret r)) { s with heap := h', toks := tk' }) →
    codeAny (model PySem.Challenge.rw_rh0204_01.row.prog w) (ktrTop dp un gd cn cs L a ccd cl outer) (.call (.ref f) ⟨vs, []⟩) R s
end
section
local macro_rules | `(tactic| omega) => `(tactic| first | lia | omega (splitNatSub := true))
section
theorem fresh3 : True := by w_top off; trivial
set_option pp.maxSteps 1500
local macro_rules | `(tactic| k_all) => `(tactic| assumption)

theorem draw_con (w : World) (p c : Addr) (cells : List Value) (ns : List Int) (spot : Int) (t t2 : Tok) (n k : Nat) (news : List (Addr × Obj)) (many : Int)
    (hc : IntsAre cells ns) (hs : 0 ≤ spot) (hs2 : spot < 1000) (hm : 0 < many) (hm2 : many < 100) (hl : ns.length ≤ 63) (hpc : @Ne Nat p c) (hoff : ∀ q ∈ news, q.1 ≠ p) :
    Con w 160 [.ref p, .int many t2] 2 20 ((p, listOf #[.ref c, .int spot t] n) :: (c, listOf cells.toArray k) :: news)
      fun r news' => ∃ d tk t' n', r = .int d tk ∧ 0 ≤ d ∧ d < many ∧ news' = (p, listOf #[.ref c, .int (spot + 1) t'] n') :: (c, listOf cells.toArray k) :: news := by
  unfold Con
  k_fill
  intro p loose mean mg mb dp un gd cn cs a ccd cl outer A₀ base h₀ L m s R B F X N T hk hd hu hret
  k_dflt ktr_enter
  k_steps
  all_goals (refine hret _ _ _ _ (by assumption) (by assumption) ⟨_, _, _, _, rfl, ?_, ?_, rfl⟩)
  all_goals first | exact Int.fmod_nonneg_of_pos _ hm | exact Int.fmod_lt_of_pos _ hm
end
section
theorem fresh4 : True := by w_top off; trivial
/-- the walk stands still at it -/
noncomputable def Halt (P : Prop) : Prop := P
theorem halt {P : Prop} (h : Halt P) : P := h

theorem con_call {w : World} {f : Addr} {vs : List Value} {dneed uneed : Nat} {news : List (Addr × Obj)} {Post : Value → List (Addr × Obj) → Prop}
    {p : Program} {loose : List Str} {mean : ExcName → Option Value} {mg mb : Str → Option Value} {dp un : Nat} {gd : Option (List Code)} {cn : Str} {cs : Scope} {a : Addr} {ccd : Value} {cl : List (Str × Addr)} {outer : List Env} {A₀ : Around} {base h₀ : Heap} {L : Addr} {m : Str → Option Value} {s : Shared} {Q E : Value → Shared → Prop}
    (B : Below A₀ base outer h₀ := by k_asm) (F : Fr h₀ L s.heap m := by k_asm) (X : (hd.heap_1 w.params).In h₀ := by k_asm) (N : News h₀ L s.heap news := by k_asm) (T : Top p loose mean mg mb h₀ := by k_asm) (C : Con w f vs dneed uneed news Post) (hk : cs.kind = .function := by first | exact rfl | assumption) (hd' : dp + dneed < recursionLimit := by first | ktr_room | walk_at "room") (hu : un + uneed < cLine := by first | ktr_units | walk_at "units")
    (h : ∀ r news' h' tk', Fr h₀ L h' m → News h₀ L h' news' → Post r news' → Q r { s with heap := h', toks := tk' }) :
    wpAny (model PySem.Challenge.rw_rh0204_01.row.prog w) (ktrTop dp un gd cn cs L a ccd cl outer) (call (.ref f) vs) Q E s :=
  wpAny_call (C p loose mean mg mb dp un gd cn cs a ccd cl outer A₀ base h₀ L m s _ B F X N T hk hd' hu h)

/-- the state behind a turn of a loop -/
noncomputable def Aft {σ : Type} (h₀ : Heap) (L : Addr) (ps : σ → List (Str × Value)) (stored : List Str) (m₀ : Str → Option Value) (Led : σ → List (Addr × Obj)) (own : List (Addr × Obj)) (I : σ → Prop) (s s₂ : Shared) : Prop :=
  ∃ c h' tk m' news', s₂ = { s with heap := h', toks := tk } ∧ Fr h₀ L h' m' ∧ News h₀ L h' news' ∧ (∀ p ∈ Led c, p ∈ news') ∧ (∀ p ∈ own, p ∈ news') ∧ OwnOff own ((Led c).map (·.1)) ∧
    (∀ p ∈ ps c, m' p.1 = some p.2) ∧ (∀ z, (∀ p ∈ ps c, z ≠ p.1) → stored.contains z = false → m' z = m₀ z) ∧ I c
noncomputable def AftF {σ : Type} (h₀ : Heap) (L : Addr) (ps : σ → List (Str × Value)) (stored : List Str) (m₀ : Str → Option Value) (Led : σ → List (Addr × Obj)) (own : List (Addr × Obj)) (I : σ → Prop) (s : Shared) (Q : Flow → Shared → Prop) (f : Flow) (s₂ : Shared) : Prop :=
  match f with
  | .ret v => Q (.ret v) s₂
  | .brk => Q .next s₂
  | _ => Aft h₀ L ps stored m₀ Led own I s s₂
theorem Aft.intro {σ : Type} {h₀ : Heap} {L : Addr} {ps : σ → List (Str × Value)} {stored : List Str} {m₀ : Str → Option Value} {Led : σ → List (Addr × Obj)} {own : List (Addr × Obj)} {I : σ → Prop} {s : Shared} {h' : Heap} {tk : Nat} {m' : Str → Option Value} {news' : List (Addr × Obj)} (c : σ)
    (F : Fr h₀ L h' m') (N : News h₀ L h' news') (h1 : ∀ p ∈ Led c, p ∈ news') (h2 : ∀ p ∈ own, p ∈ news') (h3 : OwnOff own ((Led c).map (·.1))) (h4 : ∀ p ∈ ps c, m' p.1 = some p.2)
    (h5 : ∀ z, (∀ p ∈ ps c, z ≠ p.1) → stored.contains z = false → m' z = m₀ z) (h6 : I c) : Aft h₀ L ps stored m₀ Led own I s { s with heap := h', toks := tk } :=
  ⟨c, h', tk, m', news', rfl, F, N, h1, h2, h3, h4, h5, h6⟩

/-- the frame at a turn's start, its names written out -/
theorem fr_names {h₀ h : Heap} {L : Addr} {ps : List (Str × Value)} {stored : List Str} {m₀ m₁ : Str → Option Value} (h1 : ∀ p ∈ ps, m₁ p.1 = some p.2) (h2 : ∀ z, (∀ p ∈ ps, z ≠ p.1) → stored.contains z = false → m₁ z = m₀ z)
    (F : Fr h₀ L h m₁) : Fr h₀ L h (kstB (fun z => if stored.contains z then m₁ z else m₀ z) ps) := by
  have e : kstB (fun z => if stored.contains z then m₁ z else m₀ z) ps = m₁ := by
    funext y
    refine kstB_eq h1 fun hn => ?_
    by_cases h3 : stored.contains y = true
    · rw [if_pos h3]
    · rw [if_neg h3]
      exact (h2 y hn (by simpa using h3)).symm
  rw [e]; exact F

section
variable {prog : Program} {w : World} {A : Around} {E : Value → Shared → Prop} {s : Shared} {env : Env} {h₀ : Heap} {Q : Flow → Shared → Prop}

theorem whileInv {σ : Type} {test : Expr} {body : List Stmt} {pos : Pos} {m₀ : Str → Option Value} {news : List (Addr × Obj)} {L : Addr} (ps : σ → List (Str × Value)) (stored : List Str) (Led : σ → List (Addr × Obj)) (I : σ → Prop) (sz : σ → Nat) (c₀ : σ)
    (F : Fr h₀ L s.heap m₀) (N : News h₀ L s.heap news) (hn : ∀ p ∈ Led c₀, p ∈ news) (hk : ∀ p ∈ ps c₀, m₀ p.1 = some p.2) (hi : I c₀)
    (turn : ∀ c (u : Str → Option Value) h tk, I c → Fr h₀ L h (kstB (fun z => if stored.contains z then u z else m₀ z) (ps c)) → News h₀ L h (Led c) →
      wpAny (model prog w) A (isTrue test env (eval test env)) (fun b s₂ => if b = true then
          wpAny (model prog w) A (execs body env) (AftF h₀ L ps stored m₀ Led [] (fun c' => I c' ∧ sz c' < sz c) { s with heap := h, toks := tk } Q) (fun _ _ => False) s₂
        else Q .next s₂) (fun _ _ => False) { s with heap := h, toks := tk }) :
    wpAny (model prog w) A (exec (.While test body [] pos) env) Q E s := by
  refine wpAny_noRaise (While_inv2 (fun n m nx => ∃ c, nx = Led c ∧ n = sz c ∧ I c ∧ (∀ p ∈ ps c, m p.1 = some p.2) ∧ ∀ z, (∀ p ∈ ps c, z ≠ p.1) → stored.contains z = false → m z = m₀ z)
    F (fun p hp => N p (hn p hp)) ⟨c₀, rfl, rfl, hi, hk, fun _ _ _ => rfl⟩ ?_ PassesOwn.never)
  rintro n m₁ nx h tk F₁ N₁ J9_7
  refine cps fun Pz kz => ?_
  obtain ⟨c, rfl, rfl, hI, h1, h2⟩ := J9_7
  refine kz ?_
  clear kz Pz
  refine wpAny_mono (turn c m₁ h tk hI (fr_names h1 h2 F₁) N₁) (fun b s₂ p => ?_) fun _ _ x => x
  cases b with
  | false => simpa using p
  | true =>
    simp only [if_true] at p ⊢
    refine wpAny_mono p (fun f s₃ q => ?_) fun _ _ x => x
    have go : Aft h₀ L ps stored m₀ Led [] (fun c' => I c' ∧ sz c' < sz c) { s with heap := h, toks := tk } s₃ →
        ∃ h' tk' m₂ news₂ n', s₃ = { s with heap := h', toks := tk' } ∧ Fr h₀ L h' m₂ ∧ News h₀ L h' news₂ ∧ n' < sz c ∧
          ∃ c, news₂ = Led c ∧ n' = sz c ∧ I c ∧ (∀ p ∈ ps c, m₂ p.1 = some p.2) ∧ ∀ z, (∀ p ∈ ps c, z ≠ p.1) → stored.contains z = false → m₂ z = m₀ z := by
      rintro ⟨c', h', tk', m', news', rfl, F', N', hn', _, _, h4, h5, hI', hlt⟩
      exact ⟨h', tk', m', Led c', sz c', rfl, F', fun p hp => N' p (hn' p hp), hlt, c', rfl, rfl, hI', h4, h5⟩
    cases f with
    | ret v => exact q
    | brk => exact q
    | next => exact go q
    | cont => exact go q

/-- a for over what an iterator walks -/
theorem loopAtV_in {prog : Program} {w : World} {A : Around} {h₀ : Heap} {env : Env} {x : Str} {body : List Stmt} {Q : Flow → Shared → Prop} {E : Value → Shared → Prop} {s₂ : Shared} {I : Addr} {fp wr : List Addr} {n : Nat} {P : Nat → Value → Prop} {St : Nat → Heap → Prop} {m : Str → Option Value} {news : List (Addr × Obj)} (J : Nat → (Str → Option Value) → List (Addr × Obj) → Prop)
    (W : Walks prog w A I fp wr n P St) (h1 : env.locals ∉ fp) (h2 : ∀ b ∈ wr, h₀.get? b = none) (h3 : ∀ p ∈ news, p.1 ∉ wr) (h4 : St 0 s₂.heap) (F : Fr h₀ env.locals s₂.heap m) (N : News h₀ env.locals s₂.heap news) (h5 : J 0 m news)
    (h6 : ∀ i v m₁ news₁ s₁ own, (∃ h tk, s₁ = { s₂ with heap := h, toks := tk }) → i < n → P i v → J i m₁ news₁ → (∀ p ∈ news₁, p.1 ∉ wr) → (∀ p ∈ own, p.1 ∈ fp) → (∀ p ∈ own, s₁.heap.get? p.1 = some p.2) → (∀ b ∈ fp, h₀.get? b = none → ∀ o, s₁.heap.get? b = some o → (b, o) ∈ own) → St (i + 1) s₁.heap →
      Fr h₀ env.locals s₁.heap (fun y => if y = x then some v else m₁ y) → News h₀ env.locals s₁.heap (own ++ news₁) →
      wpAny (model prog w) A (execs body env) (LoopStepV h₀ env.locals wr own (J (i + 1)) s₁ (fun v s' => Q (.ret v) s') fun s' => Q .next s') E s₁)
    (h7 : ∀ h' tk m' news', Fr h₀ env.locals h' m' → News h₀ env.locals h' news' → (∀ p ∈ news', p.1 ∉ wr) → J n m' news' → Q .next { s₂ with heap := h', toks := tk }) :
    LoopAtV prog w A h₀ env x body Q E (.ref I) s₂ := ⟨I, fp, wr, n, P, St, m, news, J, rfl, W, h1, h2, h3, h4, F, N, h5, h6, h7⟩
theorem forWalk {E : Value → Shared → Prop} {σ : Type} {x : Str} {body : List Stmt} {I : Addr} {fp : List Addr} {n : Nat} {P : Nat → Value → Prop} {St : Nat → Heap → Prop} {m₀ : Str → Option Value} {news : List (Addr × Obj)}
    (ps : σ → List (Str × Value)) (stored : List Str) (Led : σ → List (Addr × Obj)) (J : Nat → σ → Prop) (c₀ : σ)
    (W : Walks prog w A I fp [I] n P St) (hfp : ∀ b ∈ fp, b = I ∨ ∃ ob, ∀ i c, J i c → (b, ob) ∈ Led c) (hL : env.locals ∉ fp) (hI0 : h₀.get? I = none) (hob : ∀ i h, St i h → ∃ o, h.get? I = some o ∧ o.cls ≠ .type "tuple")
    (hst : St 0 s.heap) (F : Fr h₀ env.locals s.heap m₀) (N : News h₀ env.locals s.heap news) (hn : ∀ p ∈ Led c₀, p ∈ news) (hnI : ∀ p ∈ Led c₀, p.1 ≠ I) (hk : ∀ p ∈ ps c₀, m₀ p.1 = some p.2) (hj : J 0 c₀)
    (turn : ∀ i v c (u : Str → Option Value) h tk own, i < n → P i v → J i c → OwnOff own ((Led c).map (·.1)) → (∀ q ∈ own, q.2.cls ≠ .type "tuple") → Fr h₀ env.locals h (fun y => if y = x then some v else kstB (fun z => if stored.contains z then u z else m₀ z) (ps c) y) → News h₀ env.locals h (Led c ++ own) →
      wpAny (model prog w) A (execs body env) (AftF h₀ env.locals ps (x :: stored) m₀ Led own (J (i + 1)) { s with heap := h, toks := tk } Q) (fun _ _ => False) { s with heap := h, toks := tk })
    (done : ∀ c (u : Str → Option Value) h tk, J n c → Fr h₀ env.locals h (kstB (fun z => if (x :: stored).contains z then u z else m₀ z) (ps c)) → News h₀ env.locals h (Led c) → Q .next { s with heap := h, toks := tk }) :
    LoopAtV prog w A h₀ env x body Q E (.ref I) s := by
  refine loopAtV_in (wr := [I]) (m := m₀) (news := Led c₀) (fun i m nx => ∃ c, nx = Led c ∧ J i c ∧ (∀ p ∈ ps c, m p.1 = some p.2) ∧ ∀ z, (∀ p ∈ ps c, z ≠ p.1) → (x :: stored).contains z = false → m z = m₀ z) W hL ?_ ?_ hst F (fun p hp => N p (hn p hp)) ⟨c₀, rfl, hj, hk, fun _ _ _ => rfl⟩ ?_ ?_
  · intro b hb; rw [List.mem_singleton.mp hb]; exact hI0
  · intro p hp hb; exact hnI p hp (List.mem_singleton.mp hb)
  · rintro i v m₁ nx s₁ own J9_6 hi hP J9_9 hoff hown hget hall hst₁ F₁ N₁
    refine cps fun Pz kz => ?_
    obtain ⟨h, tk, rfl⟩ := J9_6
    obtain ⟨c, rfl, hJ, h1, h2⟩ := J9_9
    have hIf : I ∈ fp := W.sub I (List.mem_singleton.mpr rfl)
    obtain ⟨oI, hoI, hoC⟩ := hob _ _ hst₁
    refine kz ?_
    clear kz Pz
    have hIown : (I, oI) ∈ own := hall I hIf hI0 oI hoI
    have hone : ∀ p ∈ own, p = (I, oI) ∨ p.1 ≠ I ∧ ∃ ob, p = (p.1, ob) ∧ ∀ j c, J j c → (p.1, ob) ∈ Led c := by
      intro p hp
      by_cases hpI : p.1 = I
      · left
        have e := hget p hp
        rw [hpI, hoI] at e
        exact Prod.ext hpI (Option.some.inj e).symm
      · right
        rcases hfp p.1 (hown p hp) with e | ⟨ob, hb⟩
        · exact absurd e hpI
        · refine ⟨hpI, ob, ?_, hb⟩
          have e1 := hget p hp
          have e2 := (N₁ _ (List.mem_append.mpr (.inr (hb i c hJ)))).1
          rw [show (p.1, ob).1 = p.1 from rfl, e1] at e2
          exact Prod.ext rfl (Option.some.inj e2)
    have N₂ : News h₀ env.locals h (Led c ++ [(I, oI)]) := fun p hp => N₁ p (by
      rcases List.mem_append.mp hp with hp | hp
      · exact List.mem_append.mpr (.inr hp)
      · rw [List.mem_singleton.mp hp]; exact List.mem_append.mpr (.inl hIown))
    have hsep : OwnOff [(I, oI)] ((Led c).map (·.1)) := by
      intro p hp b hb e
      rw [List.mem_singleton.mp hp] at e
      obtain ⟨q, hq, rfl⟩ := List.mem_map.mp hb
      exact hoff q hq (List.mem_singleton.mpr e.symm)
    have F₂ : Fr h₀ env.locals h (fun y => if y = x then some v else kstB (fun z => if stored.contains z then m₁ z else m₀ z) (ps c) y) := by
      have em : (fun y => if y = x then some v else kstB (fun z => if stored.contains z then m₁ z else m₀ z) (ps c) y) = fun y => if y = x then some v else m₁ y := by
        funext y
        by_cases hy : y = x
        · rw [if_pos hy, if_pos hy]
        · rw [if_neg hy, if_neg hy]
          refine kstB_eq h1 fun hn' => ?_
          by_cases h3 : stored.contains y = true
          · rw [if_pos h3]
          · rw [if_neg h3]
            exact (h2 y hn' (by simp only [List.contains_cons, Bool.or_eq_false_iff, beq_eq_false_iff_ne]; exact ⟨hy, by simpa using h3⟩)).symm
      rw [em]; exact F₁
    refine wpAny_mono (turn i v c m₁ h tk [(I, oI)] hi hP hJ hsep (fun q hq => by rw [List.mem_singleton.mp hq]; exact hoC) F₂ N₂) (fun f s₂ p => ?_) fun _ _ e => e.elim
    have fin : Aft h₀ env.locals ps (x :: stored) m₀ Led [(I, oI)] (J (i + 1)) { s with heap := h, toks := tk } s₂ →
        LoopStepU h₀ env.locals [I] own (fun m nx => ∃ c, nx = Led c ∧ J (i + 1) c ∧ (∀ p ∈ ps c, m p.1 = some p.2) ∧ ∀ z, (∀ p ∈ ps c, z ≠ p.1) → (x :: stored).contains z = false → m z = m₀ z) { s with heap := h, toks := tk } .next s₂ := by
      rintro ⟨c', h', tk', m', news', rfl, F', N', hn', ho', hoff', h4, h5, hJ'⟩
      refine ⟨rfl, h', tk', m', Led c', rfl, F', fun p hp => ?_, fun p hp hb => ?_, c', rfl, hJ', h4, h5⟩
      · rcases List.mem_append.mp hp with hp | hp
        · rcases hone p hp with rfl | ⟨_, ob, e, hb⟩
          · exact N' _ (ho' _ (List.mem_singleton.mpr rfl))
          · rw [e]; exact N' _ (hn' _ (hb _ _ hJ'))
        · exact N' p (hn' p hp)
      · exact hoff' _ (List.mem_singleton.mpr rfl) p.1 (List.mem_map.mpr ⟨p, hp, rfl⟩) (List.mem_singleton.mp hb).symm
    cases f with
    | ret v => exact .ret p
    | brk => exact .brk p
    | next => exact .next (fin p)
    | cont => exact .cont (fin p)
  · rintro h' tk m' nx F' N' _ J9_7
    refine cps fun Pz kz => ?_
    obtain ⟨c, rfl, hJ, h1, h2⟩ := J9_7
    refine kz ?_
    clear kz Pz
    exact done c m' h' tk hJ (fr_names h1 h2 F') N'
end
end
section
/-- a sort's questions answered by a fixed order -/
noncomputable def ev {α : Type} (lt : Nat → Nat → Bool) : KasT α → α
  | .ret a => a
  | .ask i j f => ev lt (f (lt i j))
theorem ev_bind {α β : Type} (lt : Nat → Nat → Bool) (f : α → KasT β) : ∀ t : KasT α, ev lt (t.bind f) = ev lt (f (ev lt t))
  | .ret _ => rfl
  | .ask i j k => ev_bind lt f (k (lt i j))
theorem ev_wp {α : Type} {lt : Nat → Nat → Bool} {cmp : Nat → Nat → (Bool → Shared → Prop) → Shared → Prop} {s : Shared} (P : Nat → Prop)
    (hc : ∀ i j C, P i → P j → C (lt i j) s → cmp i j C s) : ∀ (t : KasT α) (Q : α → Shared → Prop), (∀ i j (f : Bool → KasT α), t = .ask i j f → True) → Q (ev lt t) s → (∀ i, P i) → t.kasWp cmp Q s
  | .ret _, _, _, h, _ => h
  | .ask i j k, Q, _, h, hp => hc i j _ (hp i) (hp j) (ev_wp P hc (k (lt i j)) Q (fun _ _ _ _ => trivial) h hp)

section
variable {key : Nat → Int} {n : Nat}
noncomputable def klt (key : Nat → Int) (i j : Nat) : Bool := decide (key i < key j)
noncomputable def at' (key : Nat → Int) (p : Array Nat) (i : Nat) : Int := key (p.getD i 0)
noncomputable def AscTo (key : Nat → Int) (p : Array Nat) (m : Nat) : Prop := ∀ i, 1 ≤ i → i < m → at' key p (i - 1) ≤ at' key p i
noncomputable def Apart' (key : Nat → Int) (p : Array Nat) : Prop := ∀ i j, i < p.size → j < p.size → i ≠ j → at' key p i ≠ at' key p j

theorem AscTo.le {p : Array Nat} {m : Nat} (h : AscTo key p m) : ∀ d i, i + d < m → at' key p i ≤ at' key p (i + d)
  | 0, i, _ => Int.le_refl _
  | d + 1, i, hd => Int.le_trans (h.le d i (by omega)) (by have := h (i + d + 1) (by omega) (by omega); rw [Nat.add_sub_cancel] at this; exact this)

theorem ev_asc (p : Array Nat) : ∀ (f k : Nat), 1 ≤ k → AscTo key p k → k ≤ ev (klt key) (kas_asc p f k) ∧ ev (klt key) (kas_asc p f k) ≤ k + f ∧ AscTo key p (ev (klt key) (kas_asc p f k)) ∧
      (ev (klt key) (kas_asc p f k) < k + f → at' key p (ev (klt key) (kas_asc p f k)) < at' key p (ev (klt key) (kas_asc p f k) - 1))
  | 0, k, _, h => ⟨Nat.le_refl _, Nat.le_refl _, h, fun x => absurd x (Nat.lt_irrefl _)⟩
  | f + 1, k, hk, h => by
    rw [kas_asc, ev]
    by_cases hc : klt key (p.getD k 0) (p.getD (k - 1) 0) = true
    · rw [if_pos hc, ev]
      refine ⟨Nat.le_refl _, by omega, h, fun _ => by simpa [klt, at'] using hc⟩
    · rw [if_neg hc]
      have h' : AscTo key p (k + 1) := fun i h1 h2 => by
        by_cases e : i = k
        · subst e
          simpa [klt, at'] using hc
        · exact h i h1 (by omega)
      have ih := ev_asc p f (k + 1) (by omega) h'
      refine ⟨by omega, by omega, ih.2.2.1, fun x => ih.2.2.2 (by omega)⟩

noncomputable def DescTo (key : Nat → Int) (p : Array Nat) (m : Nat) : Prop := ∀ i, 1 ≤ i → i < m → at' key p i ≤ at' key p (i - 1)
theorem ev_desc (p : Array Nat) (ha : Apart' key p) : ∀ (f k : Nat), 1 ≤ k → k + f ≤ p.size → DescTo key p k → ∃ m, ev (klt key) (kas_desc f p k 0) = (p, m, 0) ∧ k ≤ m ∧ m ≤ k + f ∧ DescTo key p m
  | 0, k, _, _, h => ⟨k, rfl, Nat.le_refl _, Nat.le_refl _, h⟩
  | f + 1, k, hk, hs, h => by
    rw [kas_desc, ev]
    by_cases hc : klt key (p.getD k 0) (p.getD (k - 1) 0) = true
    · rw [if_pos hc, if_neg (by omega)]
      have h' : DescTo key p (k + 1) := fun i h1 h2 => by
        by_cases e : i = k
        · subst e
          have : at' key p i < at' key p (i - 1) := by simpa [klt, at'] using hc
          exact Int.le_of_lt this
        · exact h i h1 (by omega)
      obtain ⟨m, e, h1, h2, h3⟩ := ev_desc p ha f (k + 1) (by omega) (by omega) h'
      exact ⟨m, e, by omega, by omega, h3⟩
    · rw [if_neg hc, ev]
      have hne := ha k (k - 1) (by omega) (by omega) (by omega)
      have hge : ¬ at' key p k < at' key p (k - 1) := by simpa [klt, at'] using hc
      have hd : klt key (p.getD (k - 1) 0) (p.getD k 0) = true := by
        have : at' key p (k - 1) < at' key p k := by omega
        simpa [klt, at'] using this
      rw [if_pos hd, ev]
      exact ⟨k, rfl, Nat.le_refl _, by omega, h⟩

theorem at_mirror {p : Array Nat} {m : Nat} (hm : m ≤ p.size) (i : Nat) (hi : i < m) : at' key (kas_rev p 0 m) i = at' key p (m - 1 - i) := by
  have e := getElem?_mirror_all (xs := p) (i := 0) (j := m) hm i
  rw [if_pos ⟨Nat.zero_le _, hi⟩] at e
  unfold at' kas_rev
  rw [Array.getD_eq_getD_getElem?, Array.getD_eq_getD_getElem?, e]
  congr 3
  omega

theorem ev_tail3 {p : Array Nat} {m nrem : Nat} (h1 : 1 ≤ m) (hm : m ≤ nrem) (hs : nrem ≤ p.size) (h : DescTo key p m) :
    ∃ m' p', ev (klt key) (kas_tail3 m nrem p) = (m', p') ∧ 1 ≤ m' ∧ m' ≤ nrem ∧ p'.Perm p ∧ AscTo key p' m' := by
  have hA : AscTo key (kas_rev p 0 m) m := fun i g1 h2 => by
    obtain ⟨j, rfl⟩ : ∃ j, i = j + 1 := ⟨i - 1, (Nat.sub_add_cancel g1).symm⟩
    rw [Nat.add_sub_cancel, at_mirror (Nat.le_trans hm hs) _ (Nat.lt_of_succ_lt h2), at_mirror (Nat.le_trans hm hs) _ h2]
    exact h (m - 1 - j) (Nat.le_sub_of_add_le (Nat.le_sub_of_add_le (by omega))) (Nat.lt_of_le_of_lt (Nat.sub_le _ _) (Nat.sub_lt h1 Nat.one_pos))
  have ha := ev_asc (key := key) (kas_rev p 0 m) (nrem - m) m h1 hA
  refine ⟨ev (klt key) (kas_asc (kas_rev p 0 m) (nrem - m) m), kas_rev p 0 m, ?_, by omega, by omega, mirror_perm _ _ _ _, ha.2.2.1⟩
  unfold kas_tail3
  rw [ev_bind]
  rfl

theorem ev_count {p : Array Nat} (ha : Apart' key p) (h1 : 1 ≤ p.size) :
    ∃ m p', ev (klt key) (kas_count p.size p) = (m, p') ∧ 1 ≤ m ∧ m ≤ p.size ∧ p'.Perm p ∧ AscTo key p' m := by
  have hA := ev_asc (key := key) p (p.size - 1) 1 (Nat.le_refl _) (fun i h1 h2 => absurd h1 (by omega))
  unfold kas_count
  rw [ev_bind]
  generalize ev (klt key) (kas_asc p (p.size - 1) 1) = k at hA
  rw [Nat.add_sub_of_le h1] at hA
  obtain ⟨a1, a2, a3, a4⟩ := hA
  by_cases e1 : (k == p.size) = true
  · rw [if_pos e1]
    exact ⟨k, p, rfl, a1, a2, Array.Perm.refl _, a3⟩
  · rw [if_neg e1]
    have hlt : k < p.size := by
      have : k ≠ p.size := fun q => e1 (by rw [q]; exact beq_self_eq_true _)
      exact Nat.lt_of_le_of_ne a2 this
    by_cases e2 : k > 1
    · rw [if_pos e2, ev]
      have hle : at' key p 0 ≤ at' key p (k - 1) := by
        have := a3.le (k - 1) 0 (by omega)
        simpa using this
      have hne := ha 0 (k - 1) (by omega) (by omega) (by omega)
      have hc : klt key (p.getD 0 0) (p.getD (k - 1) 0) = true := by
        have : at' key p 0 < at' key p (k - 1) := by omega
        simpa [klt, at'] using this
      rw [if_pos hc]
      exact ⟨k, p, rfl, a1, a2, Array.Perm.refl _, a3⟩
    · rw [if_neg e2]
      obtain rfl : k = 1 := Nat.le_antisymm (Nat.le_of_not_lt e2) a1
      have h4 := a4 hlt
      unfold kas_descPart
      rw [ev_bind]
      obtain ⟨m, e, b1, b2, b3⟩ := ev_desc p ha (p.size - (1 + 1)) (1 + 1) (by decide) (Nat.le_of_eq (Nat.add_sub_of_le hlt)) (fun i h1 h2 => by
        obtain rfl : i = 1 := Nat.le_antisymm (Nat.le_of_lt_succ h2) h1
        exact Int.le_of_lt h4)
      rw [e]
      dsimp only
      rw [Nat.add_sub_of_le hlt] at b2
      rw [if_neg (by omega)]
      exact ev_tail3 (by omega) (by omega) (Nat.le_refl _) b3

theorem ev_place (p : Array Nat) (k : Nat) (hA : AscTo key p k) : ∀ (f l r : Nat), l ≤ r → r ≤ k → r ≤ l + f → (∀ i, i < l → at' key p i ≤ at' key p k) → (∀ i, r ≤ i → i < k → at' key p k ≤ at' key p i) →
    ∃ q, ev (klt key) (kas_place p k f l r) = q ∧ q ≤ k ∧ (∀ i, i < q → at' key p i ≤ at' key p k) ∧ (∀ i, q ≤ i → i < k → at' key p k ≤ at' key p i)
  | 0, l, r, h1, h2, h3, h4, h5 => ⟨l, rfl, by omega, h4, fun i a b => h5 i (by omega) b⟩
  | f + 1, l, r, h1, h2, h3, h4, h5 => by
    rw [kas_place]
    by_cases e : l ≥ r
    · rw [if_pos e]
      exact ⟨l, rfl, by omega, h4, fun i a b => h5 i (by omega) b⟩
    · rw [if_neg e, ev]
      have m1 : l ≤ (l + r) / 2 := by omega
      have m2 : (l + r) / 2 < r := by omega
      have m3 : r ≤ (l + r) / 2 + 1 + f := by omega
      have m4 : (l + r) / 2 ≤ l + f := by omega
      generalize (l + r) / 2 = c at *
      by_cases hc : klt key (p.getD k 0) (p.getD c 0) = true
      · rw [if_pos hc]
        have hlt : at' key p k < at' key p c := by simpa [klt, at'] using hc
        refine ev_place p k hA f l c m1 (Nat.le_trans (Nat.le_of_lt m2) h2) m4 h4 fun i a b => ?_
        have := hA.le (i - c) c (by rw [Nat.add_sub_of_le a]; exact b)
        rw [Nat.add_sub_of_le a] at this
        exact Int.le_trans (Int.le_of_lt hlt) this
      · rw [if_neg hc]
        have hge : ¬ at' key p k < at' key p c := by simpa [klt, at'] using hc
        refine ev_place p k hA f (c + 1) r m2 h2 m3 (fun i a => ?_) h5
        have := hA.le (c - i) i (by rw [Nat.add_sub_of_le (Nat.le_of_lt_succ a)]; exact Nat.lt_of_lt_of_le m2 h2)
        rw [Nat.add_sub_of_le (Nat.le_of_lt_succ a)] at this
        exact Int.le_trans this (Int.not_lt.mp hge)

theorem at_bubble {p : Array Nat} {k q : Nat} (hk : k < p.size) (hq : q ≤ k) (i : Nat) : at' key (bubble p k (k - q)) i = if i = q then at' key p k else if q < i ∧ i ≤ k then at' key p (i - 1) else at' key p i := by
  have e := getElem?_bubble hk (k - q) (Nat.sub_le _ _) i
  rw [Nat.sub_sub_self hq] at e
  unfold at'
  simp only [Array.getD_eq_getD_getElem?]
  rw [e]
  repeat' split
  all_goals rfl

theorem ev_bin : ∀ (f : Nat) (p : Array Nat) (k : Nat), k + f ≤ p.size → AscTo key p k → ∃ p', ev (klt key) (kas_bin f p k) = p' ∧ p'.Perm p ∧ AscTo key p' (k + f)
  | 0, p, k, _, h => ⟨p, rfl, Array.Perm.refl _, h⟩
  | f + 1, p, k, hs, h => by
    rw [kas_bin, ev_bind]
    obtain ⟨q, e, hq, q1, q2⟩ := ev_place p k h k 0 k (Nat.zero_le _) (Nat.le_refl _) (by omega) (fun i hi => absurd hi (Nat.not_lt_zero _)) (fun i a b => absurd b (by omega))
    rw [e]
    have h' : AscTo key (bubble p k (k - q)) (k + 1) := fun i h1 h2 => by
      obtain ⟨j, rfl⟩ : ∃ j, i = j + 1 := ⟨i - 1, (Nat.sub_add_cancel h1).symm⟩
      have hkp : k < p.size := by omega
      rw [at_bubble hkp hq, at_bubble hkp hq, Nat.add_sub_cancel]
      by_cases c1 : j + 1 = q
      · rw [if_pos c1, if_neg (by omega), if_neg (by omega)]
        exact q1 j (by omega)
      · by_cases c2 : j = q
        · rw [if_pos c2, if_neg c1, if_pos (by omega)]
          exact q2 j (by omega) (by omega)
        · rw [if_neg c1, if_neg c2]
          by_cases c3 : q < j + 1
          · rw [if_pos (show q < j ∧ j ≤ k by omega), if_pos (show q < j + 1 ∧ j + 1 ≤ k by omega)]
            exact h j (by omega) (by omega)
          · rw [if_neg (by omega), if_neg (by omega)]
            exact h (j + 1) h1 (by omega)
    obtain ⟨p', e', hp, hA⟩ := ev_bin f (bubble p k (k - q)) (k + 1) (by rw [bubble_size]; omega) h'
    exact ⟨p', e', hp.trans (bubble_perm _ _ _), by rw [show k + (f + 1) = k + 1 + f by omega]; exact hA⟩

theorem ev_sort (hn : 1 ≤ n) (hk : ∀ i j, i < n → j < n → i ≠ j → key i ≠ key j) :
    ∃ p, ev (klt key) (kas_sort n) = p ∧ p.Perm (List.toArray (List.range n)) ∧ AscTo key p n := by
  have hsz : (List.toArray (List.range n)).size = n := by simp
  have hat : ∀ i, i < n → at' key (List.toArray (List.range n)) i = key i := fun i hi => by
    simp [at', Array.getD, hi]
  have ha : Apart' key (List.toArray (List.range n)) := fun i j hi hj hij => by
    rw [hsz] at hi hj
    rw [hat i hi, hat j hj]
    exact hk i j hi hj hij
  obtain ⟨m, p', e, h1, h2, hp, hA⟩ := ev_count ha (by rw [hsz]; exact hn)
  rw [hsz] at e h2
  unfold kas_sort
  rw [ev_bind, e]
  have hps : p'.size = n := hp.size_eq.trans hsz
  dsimp only
  by_cases c : m < n
  · rw [if_pos c]
    obtain ⟨p'', e', hp', hA'⟩ := ev_bin (key := key) (n - max m 1) p' (max m 1) (by omega) (by rw [show max m 1 = m by omega]; exact hA)
    exact ⟨p'', e', hp'.trans hp, by rw [show max m 1 + (n - max m 1) = n by omega] at hA'; exact hA'⟩
  · rw [if_neg c]
    exact ⟨p', rfl, hp, by rw [show m = n by omega] at hA; exact hA⟩
end
end
section
/-- a plain dict, its entries as they stand, whatever their keys -/
noncomputable abbrev dctO (es : Array DictEntry) (ep : Nat) : Obj := { cls := .type "dict", data := .dict es ep }

section
variable {prog : Program} {w : World} {A : Around} {E : Value → Shared → Prop} {s : Shared} {d it : Addr} {es : Array DictEntry} {ep i : Nat}

theorem iter_raw {Q : Value → Shared → Prop} (lo : (d == sysModules) = false) (ho : s.heap.get? d = some (dctO es ep))
    (hQ : Q (.ref s.heap.objs.size) { s with heap := s.heap.push { cls := .type "dict_keyiterator", data := .fields #[.ref d, .int 0 0, .int es.size 0, .int ep 0] } }) :
    wpAny (model prog w) A (pyIter (.ref d)) Q E s := by
  have hT : s.TypeIs (.ref d) "dict" := ⟨_, ho, rfl⟩
  refine wpAny_pyIter_slot hT PySem.F.slot_dict_iter (wpAny_call_entry PySem.F.slot_dict_iter hT PySem.F.entry_dict_iter ?_ (PySem.F.args_dict_iter_1 _))
  show wpAny _ _ (Builtin.Dict.dictSlotNone "__iter__" ⟨[.ref d], []⟩ >>= _) _ _ s
  refine wpAny_bind ?_
  unfold Builtin.Dict.dictSlotNone
  refine wpAny_bind (wpAny_notOrdered_dict hT ?_)
  refine wpAny_pure ?_
  show wpAny _ _ (Builtin.Dict.showsAll d >>= _) _ _ s
  unfold Builtin.Dict.showsAll
  rw [if_neg (by rw [lo]; exact Bool.false_ne_true)]
  refine wpAny_bind (wpAny_pure (wpAny_bind (wpAny_dictEntries ho rfl (wpAny_bind (wpAny_dictEpoch ho rfl ?_)))))
  exact wpAny_bind (wpAny_newObj_type (wpAny_pure ⟨_, rfl, "dict_keyiterator", _, ⟨_, Heap.get?_push_size _ rfl, rfl⟩, PySem.F.slot_dict_keyiterator_next.lookup, by simpa [rawInt] using hQ⟩))

theorem next_raw {Q : Option Value → Shared → Prop} {e : DictEntry} (hit : s.heap.IsKeyIter it d i es.size ep) (hod : s.heap.get? d = some (dctO es ep)) (hx : es[i]? = some e)
    (hQ : ∀ h', h'.IsKeyIter it d (i + 1) es.size ep → Heap.SameBut it s.heap h' → Q (some e.key) { s with heap := h' }) : wpAny (model prog w) A (pyNext (.ref it)) Q E s := by
  obtain ⟨o, ho, hc, hd⟩ := id hit
  have hT : s.TypeIs (.ref it) "dict_keyiterator" := hit.typeIs
  unfold pyNext
  refine wpAny_bind (wpAny_attempt (wpAny_callSpecial?_slot (name := Str.ofString "__next__") hT PySem.F.slot_dict_keyiterator_next
    (wpAny_call_entry PySem.F.slot_dict_keyiterator_next hT PySem.F.entry_dict_keyiterator_next ?_ (PySem.F.args_dict_keyiterator_next_1 _))))
  refine wpAny_bind (wpAny_pure (wpAny_bind (wpAny_bind ?_)))
  refine wpAny_bind (wpAny_typeNameOfWhole_keyiter hT (wpAny_pure (wpAny_bind (wpAny_fieldsOf ho hd ?_))))
  show wpAny _ _ (if (Value.ref d == Value.none) = true then _ else _) _ _ s
  rw [if_neg (show ¬ ((Value.ref d == Value.none) = true) from Bool.false_ne_true)]
  refine wpAny_bind (wpAny_pure (wpAny_bind (wpAny_dictEntries hod rfl ?_)))
  rw [if_neg (by simp)]
  refine wpAny_bind (wpAny_pure (wpAny_bind (wpAny_dictEpoch hod rfl ?_)))
  rw [if_neg (by simp)]
  refine wpAny_pure ?_
  simp only [show ¬ ((i : Int) < 0) from by omega, if_false, Int.toNat_natCast, hx]
  refine wpAny_bind (wpAny_bind (wpAny_typeNameOfWhole_keyiter hT (wpAny_pure (wpAny_bind (wpAny_isOneOf_keyiter hT ?_)))))
  show wpAny _ _ (setField (.ref it) 1 (rawInt ((i : Int) + 1)) >>= _) _ _ s
  refine wpAny_bind (wpAny_setField ho hd (by simp) ?_)
  have hit' : (s.heap.update it (Obj.mapFields (·.setIfInBounds 1 (rawInt ((i : Int) + 1))))).IsKeyIter it d (i + 1) es.size ep :=
    ⟨_, Heap.get?_update_self _ ho (Obj.isFreed_of_fields (Obj.data_mapFields hd _)), (Obj.cls_mapFields ..).trans hc, by rw [Obj.data_mapFields hd]; simp [rawInt]⟩
  refine wpAny_bind (wpAny_holding (wpAny_bind (wpAny_isOneOf_keyiter (s := { s with heap := s.heap.update it (Obj.mapFields (·.setIfInBounds 1 (rawInt ((i : Int) + 1)))) }) hit'.typeIs ?_)))
  show wpAny _ _ (pure e.key) _ _ _
  exact wpAny_pure (wpAny_pure ⟨_, rfl, wpAny_pure (hQ _ hit' (Heap.SameBut.update ..))⟩)

theorem end_raw {Q : Option Value → Shared → Prop} (hh : A.handled = none) (hit : s.heap.IsKeyIter it d es.size es.size ep) (hod : s.heap.get? d = some (dctO es ep))
    (hQ : ∀ h', Heap.ExtBut it s.heap h' → Q none { s with heap := h' }) : wpAny (model prog w) A (pyNext (.ref it)) Q E s := by
  obtain ⟨o, ho, hc, hd⟩ := id hit
  have hT : s.TypeIs (.ref it) "dict_keyiterator" := hit.typeIs
  unfold pyNext
  refine wpAny_bind (wpAny_attempt (wpAny_callSpecial?_slot (name := Str.ofString "__next__") hT PySem.F.slot_dict_keyiterator_next
    (wpAny_call_entry PySem.F.slot_dict_keyiterator_next hT PySem.F.entry_dict_keyiterator_next ?_ (PySem.F.args_dict_keyiterator_next_1 _))))
  refine wpAny_bind (wpAny_pure (wpAny_bind (wpAny_bind ?_)))
  refine wpAny_bind (wpAny_typeNameOfWhole_keyiter hT (wpAny_pure (wpAny_bind (wpAny_fieldsOf ho hd ?_))))
  show wpAny _ _ (if (Value.ref d == Value.none) = true then _ else _) _ _ s
  rw [if_neg (show ¬ ((Value.ref d == Value.none) = true) from Bool.false_ne_true)]
  refine wpAny_bind (wpAny_pure (wpAny_bind (wpAny_dictEntries hod rfl ?_)))
  rw [if_neg (by simp)]
  refine wpAny_bind (wpAny_pure (wpAny_bind (wpAny_dictEpoch hod rfl ?_)))
  rw [if_neg (by simp)]
  refine wpAny_pure ?_
  simp only [show ¬ ((es.size : Int) < 0) from by omega, if_false, Int.toNat_natCast, Array.getElem?_eq_none (Nat.le_refl es.size)]
  refine wpAny_bind (wpAny_bind (wpAny_typeNameOfWhole_keyiter hT (wpAny_pure ?_)))
  show wpAny _ _ (setField (.ref it) 0 .none >>= _) _ _ s
  refine wpAny_bind (wpAny_setField ho hd (by simp) ?_)
  show wpAny _ _ (newExc (.type "StopIteration") [] >>= _) _ _ _
  refine wpAny_bind ?_
  simp only [newExc, newTuple]
  refine wpAny_bind (wpAny_newObj_type ?_ (by size_fits))
  refine wpAny_bind (m := firstArgMember _ _) (wpAny_of_eq (a := Value.none) (by first | rfl | (simp only [firstArgMember]; rfl)) ?_)
  refine wpAny_newObj_type ?_ (by size_fits)
  simp only [raiseNew]
  refine wpAny_bind (wpAny_handled ?_)
  rw [show A.in1.handled = none from hh]
  refine wpAny_bind (wpAny_pure (wpAny_throw ?_))
  refine wpAny_bind (wpAny_isInstance (T := "StopIteration") (b := true) ⟨_, Heap.get?_push_size _ rfl, rfl⟩ isSubtype_stop ?_)
  exact wpAny_pure (hQ _ (((Heap.SameBut.update ..).extBut.push _).push _))
end

theorem walks_raw {prog : Program} {w : World} {A : Around} (hh : A.handled = none) (I d : Addr) (hne : d ≠ I) (es : Array DictEntry) (ep : Nat) :
    Walks prog w A I [I, d] [I] es.size (fun i v => ∃ e, es[i]? = some e ∧ v = e.key) (fun i h => h.IsKeyIter I d i es.size ep ∧ h.get? d = some (dctO es ep)) where
  sub := fun b hb => by simp at hb; simp [hb]
  frame := fun _ _ _ st hk => ⟨st.1.at fun o e => hk I (by simp) o e, hk d (by simp) _ st.2⟩
  item := fun i s Q E hi st hQ => by
    have hx : es[i]? = some es[i] := by simp [hi]
    refine next_raw st.1 st.2 hx fun h' hit' hs' => ?_
    exact hQ _ h' s.toks ⟨_, hx, rfl⟩ ⟨hit', (hs'.2 d hne).trans st.2⟩ fun b o hb e => hs'.extBut b o (fun h => hb (by simp [h])) e
  done := fun s Q E st hQ => end_raw hh st.1 st.2 fun h' he' => hQ h' s.toks fun b o hb e => he' b o (fun h => hb (by simp [h])) e
  self := fun _ _ _ _ st hQ => wpAny_pyIter_keyiter st.1 hQ

theorem src_raw {prog : Program} {w : World} {d : Addr} {es : Array DictEntry} {ep : Nat} (lo : (d == sysModules) = false) :
    KdlSrc prog w "dict" d d es.size (fun i v => ∃ e, es[i]? = some e ∧ v = e.key) (fun h => h.get? d = some (dctO es ep)) where
  type := fun _ hm => ⟨_, hm, rfl⟩
  there := fun _ hm => ⟨Heap.lt_size hm, Heap.lt_size hm⟩
  keep := fun _ _ hm hk => hk d (.inl rfl) _ hm
  notList := by decide
  notTuple := by decide
  hint := fun _ _ _ _ hm hq => kdl_hint_dict ⟨_, hm, rfl⟩ hq
  iter := fun _ _ hh hm => ⟨_, _, (fun _ _ hq => iter_raw lo hm hq), walks_raw hh _ d (Nat.ne_of_lt (Heap.lt_size hm)) es ep, ⟨⟨_, Heap.get?_push_size _ rfl, rfl, rfl⟩, Heap.get?_push_of_some _ hm⟩⟩
end
section
/-- all a sort asks lies in range -/
noncomputable def InR (n i j : Nat) (C : Bool → Shared → Prop) (s : Shared) : Prop := i < n ∧ j < n ∧ ∀ b, C b s
noncomputable def GoodP (n : Nat) (p : Array Nat) : Prop := ∀ i, p.getD i 0 < n
theorem good_perm {n : Nat} {p p' : Array Nat} (h : GoodP n p) (hp : p'.Perm p) : GoodP n p' := fun i => by
  by_cases hi : i < p'.size
  · have e : p'.getD i 0 = p'[i] := by simp [Array.getD, hi]
    have hm : p'[i] ∈ p := hp.mem_iff.mp (Array.getElem_mem hi)
    obtain ⟨j, hj, ej⟩ := Array.mem_iff_getElem.mp hm
    have := h j
    rw [show p.getD j 0 = p[j] by simp [Array.getD, hj], ej] at this
    rw [e]; exact this
  · have := h p.size
    rw [show p.getD p.size 0 = 0 by simp [Array.getD]] at this
    rw [show p'.getD i 0 = 0 by simp [Array.getD, hi]]; exact this

section
variable {n : Nat} {s : Shared}
theorem in_asc {p : Array Nat} (hp : GoodP n p) : ∀ (f k : Nat) {Q : Nat → Shared → Prop}, (∀ m, Q m s) → (kas_asc p f k).kasWp (InR n) Q s
  | 0, k, _, h => h k
  | f + 1, k, Q, h => ⟨hp _, hp _, fun b => by
    cases b with
    | false => exact in_asc hp f (k + 1) h
    | true => exact h k⟩
theorem in_desc : ∀ (f : Nat) (p : Array Nat) (k q : Nat) {Q : Array Nat × Nat × Nat → Shared → Prop}, GoodP n p → (∀ r, GoodP n r.1 → Q r s) → (kas_desc f p k q).kasWp (InR n) Q s
  | 0, p, k, q, _, hp, h => h _ hp
  | f + 1, p, k, q, Q, hp, h => ⟨hp _, hp _, fun b => by
    cases b with
    | true =>
      show ((if q > 0 then kas_desc f (kas_rev p (k - (q + 1)) k) (k + 1) 0 else kas_desc f p (k + 1) 0 : KasT _)).kasWp (InR n) Q s
      by_cases hq : q > 0
      · rw [if_pos hq]; exact in_desc f _ _ _ (good_perm hp (mirror_perm _ _ _ _)) h
      · rw [if_neg hq]; exact in_desc f _ _ _ hp h
    | false => exact ⟨hp _, hp _, fun d => by
        cases d with
        | true => exact h _ hp
        | false => exact in_desc f _ _ _ hp h⟩⟩
theorem in_tail3 {p : Array Nat} {m nrem : Nat} {Q : Nat × Array Nat → Shared → Prop} (hp : GoodP n p) (h : ∀ r, GoodP n r.2 → Q r s) : (kas_tail3 m nrem p).kasWp (InR n) Q s := by
  unfold kas_tail3
  rw [KasT.kasWp_bind]
  exact in_asc (good_perm hp (mirror_perm _ _ _ _)) _ _ fun k => h _ (good_perm hp (mirror_perm _ _ _ _))
theorem in_descPart {p : Array Nat} {m nrem : Nat} {Q : Nat × Array Nat → Shared → Prop} (hp : GoodP n p) (h : ∀ r, GoodP n r.2 → Q r s) : (kas_descPart m nrem p).kasWp (InR n) Q s := by
  unfold kas_descPart
  rw [KasT.kasWp_bind]
  refine in_desc _ _ _ _ hp fun r hr => ?_
  by_cases hq : r.2.2 > 0
  · rw [if_pos hq]; exact in_tail3 (good_perm hr (mirror_perm _ _ _ _)) h
  · rw [if_neg hq]; exact in_tail3 hr h
theorem in_count {p : Array Nat} {nrem : Nat} {Q : Nat × Array Nat → Shared → Prop} (hp : GoodP n p) (h : ∀ r, GoodP n r.2 → Q r s) : (kas_count nrem p).kasWp (InR n) Q s := by
  unfold kas_count
  rw [KasT.kasWp_bind]
  refine in_asc hp _ _ fun k => ?_
  by_cases h1 : (k == nrem) = true
  · rw [if_pos h1]; exact h _ hp
  · rw [if_neg h1]
    by_cases h2 : k > 1
    · rw [if_pos h2]
      exact ⟨hp _, hp _, fun b => by
        cases b with
        | true => exact h _ hp
        | false => exact in_descPart (good_perm hp (mirror_perm _ _ _ _)) h⟩
    · rw [if_neg h2]; exact in_descPart hp h
theorem in_place {p : Array Nat} {k : Nat} (hp : GoodP n p) : ∀ (f l r : Nat) {Q : Nat → Shared → Prop}, (∀ m, Q m s) → (kas_place p k f l r).kasWp (InR n) Q s
  | 0, l, r, _, h => h l
  | f + 1, l, r, Q, h => by
    unfold kas_place
    by_cases hl : l ≥ r
    · rw [if_pos hl]; exact h l
    · rw [if_neg hl]
      exact ⟨hp _, hp _, fun b => by
        cases b with
        | true => exact in_place hp f _ _ h
        | false => exact in_place hp f _ _ h⟩
theorem in_bin : ∀ (f : Nat) (p : Array Nat) (k : Nat) {Q : Array Nat → Shared → Prop}, GoodP n p → (∀ r, GoodP n r → Q r s) → (kas_bin f p k).kasWp (InR n) Q s
  | 0, p, k, _, hp, h => h p hp
  | f + 1, p, k, Q, hp, h => by
    unfold kas_bin
    rw [KasT.kasWp_bind]
    exact in_place hp _ _ _ fun l => in_bin f _ _ (good_perm hp (bubble_perm _ _ _)) h
theorem in_sort (hn : 0 < n) : (kas_sort n).kasWp (InR n) (fun _ _ => True) s := by
  unfold kas_sort
  rw [KasT.kasWp_bind]
  refine in_count (fun i => ?_) fun r hr => ?_
  · by_cases hi : i < n
    · simp [Array.getD, hi]
    · simp [Array.getD, hi]; exact hn
  · by_cases h : r.1 < n
    · rw [if_pos h]; exact in_bin _ _ _ hr fun _ _ => trivial
    · rw [if_neg h]; exact trivial
theorem ev_in {α : Type} {lt : Nat → Nat → Bool} {cmp : Nat → Nat → (Bool → Shared → Prop) → Shared → Prop} (hc : ∀ i j C, i < n → j < n → C (lt i j) s → cmp i j C s) :
    ∀ (t : KasT α) {Q : α → Shared → Prop}, t.kasWp (InR n) (fun _ _ => True) s → Q (ev lt t) s → t.kasWp cmp Q s
  | .ret _, _, _, h => h
  | .ask i j k, _, hi, h => hc i j _ hi.1 hi.2.1 (ev_in hc (k (lt i j)) (hi.2.2 _) h)
end

noncomputable abbrev pd (p : Int × Int) : Dat := .tuple [.int p.1, .int p.2]
noncomputable def pkey (p : Int × Int) : Int := 100 * p.1 + p.2
noncomputable def Asc (ps : List (Int × Int)) : Prop := ps.Pairwise fun p q => pkey p < pkey q

theorem dat_tuple_inv {news : List (Addr × Obj)} {v : Value} {ds : List Dat} (h : DatIn news v (.tuple ds)) : ∃ a vs n, v = .ref a ∧ (a, ({ cls := .type "tuple", data := .seq vs.toArray n } : Obj)) ∈ news ∧ DatAll news vs ds := by
  cases h with
  | tuple m1 d1 => exact ⟨_, _, _, rfl, m1, d1⟩
theorem int_inv {news : List (Addr × Obj)} {v : Value} {i : Int} (h : DatIn news v (.int i)) : ∃ t, v = .int i t := by cases h; exact ⟨_, rfl⟩
theorem str_inv {news : List (Addr × Obj)} {v : Value} {i : Str} (h : DatIn news v (.str i)) : ∃ t, v = .str i t := by cases h; exact ⟨_, rfl⟩
theorem dats_inv {news : List (Addr × Obj)} {vs : List Value} {d : Dat} {ds : List Dat} (h : DatAll news vs (d :: ds)) : ∃ v r, vs = v :: r ∧ DatIn news v d ∧ DatAll news r ds := by
  cases h with
  | cons i r => exact ⟨_, _, rfl, i, r⟩
theorem dats_end {news : List (Addr × Obj)} {vs : List Value} (h : DatAll news vs []) : vs = [] := by cases h; rfl
theorem dats_two {news : List (Addr × Obj)} {vs : List Value} {d1 d2 : Dat} (h : DatAll news vs [d1, d2]) : ∃ v1 v2, vs = [v1, v2] ∧ DatIn news v1 d1 ∧ DatIn news v2 d2 := by
  obtain ⟨_, _, rfl, i, h⟩ := dats_inv h
  obtain ⟨_, _, rfl, j, h⟩ := dats_inv h
  obtain rfl := dats_end h
  exact ⟨_, _, rfl, i, j⟩
theorem pair_inv {news : List (Addr × Obj)} {v : Value} {d1 d2 : Dat} (h : DatIn news v (.tuple [d1, d2])) : ∃ a n v1 v2, v = .ref a ∧ (a, ({ cls := .type "tuple", data := .seq [v1, v2].toArray n } : Obj)) ∈ news ∧ DatIn news v1 d1 ∧ DatIn news v2 d2 := by
  obtain ⟨_, _, _, e, m, h⟩ := dat_tuple_inv h
  obtain ⟨_, _, rfl, i, j⟩ := dats_two h
  exact ⟨_, _, _, _, e, m, i, j⟩
theorem pd_inv {news : List (Addr × Obj)} {v : Value} {p : Int × Int} (h : DatIn news v (pd p)) : ∃ a n t1 t2, v = .ref a ∧ (a, ({ cls := .type "tuple", data := .seq [.int p.1 t1, .int p.2 t2].toArray n } : Obj)) ∈ news := by
  obtain ⟨_, _, _, _, e, m, i, j⟩ := pair_inv h
  obtain ⟨_, rfl⟩ := int_inv i
  obtain ⟨_, rfl⟩ := int_inv j
  exact ⟨_, _, _, _, e, m⟩
theorem dat_getD {news : List (Addr × Obj)} {vs : List Value} {ps : List (Int × Int)} (hd : DatAll news vs (ps.map pd)) {i : Nat} (hi : i < ps.length) : DatIn news (vs.getD i Value.none) (pd (ps.getD i (0, 0))) := by
  obtain ⟨v, e, d⟩ := hd.get (k := i) (by rw [List.length_map]; exact hi)
  rw [List.getElem_map] at d
  rw [List.getD_eq_getElem?_getD, e, List.getD_eq_getElem?_getD, List.getElem?_eq_getElem hi]
  exact d

section
variable {prog : Program} {w : World} {A : Around} {E : Value → Shared → Prop} {s : Shared} {h₀ : Heap} {L : Addr} {m : Str → Option Value} {news : List (Addr × Obj)} {vs : List Value} {ps : List (Int × Int)}

theorem cmp_pair (N : News h₀ L s.heap news) (hd : DatAll news vs (ps.map pd)) (hr : ∀ p ∈ ps, 0 ≤ p.2 ∧ p.2 < 100) {i j : Nat} (hi : i < ps.length) (hj : j < ps.length) {C : Bool → Shared → Prop}
    (h : C (klt (fun i => pkey (ps.getD i (0, 0))) i j) s) : kas_ask prog w A (tuples' true) vs i j C s := by
  unfold kas_ask
  have gi : ps.getD i (0, 0) ∈ ps := by rw [List.getD_eq_getElem?_getD, List.getElem?_eq_getElem hi]; exact List.getElem_mem hi
  have gj : ps.getD j (0, 0) ∈ ps := by rw [List.getD_eq_getElem?_getD, List.getElem?_eq_getElem hj]; exact List.getElem_mem hj
  have ri := hr _ gi
  have rj := hr _ gj
  obtain ⟨a, n, t1, t2, e1, m1⟩ := pd_inv (dat_getD hd hi)
  obtain ⟨b, n', t3, t4, e2, m2⟩ := pd_inv (dat_getD hd hj)
  rw [e1, e2]
  have h : C (decide (pkey (ps.getD i (0, 0)) < pkey (ps.getD j (0, 0)))) s := h
  generalize ps.getD i (0, 0) = p at *
  generalize ps.getD j (0, 0) = q at *
  have h : C (decide (100 * p.1 + p.2 < 100 * q.1 + q.2)) s := h
  refine kat_lt (N.get m1) rfl (N.get m2) rfl ?_
  refine kat_cons (wpAny_eqBool_int ?_)
  by_cases e : p.1 = q.1
  · rw [show (p.1 == q.1) = true by simpa using e]
    refine kat_yes (kat_cons (wpAny_eqBool_int ?_))
    by_cases e' : p.2 = q.2
    · rw [show (p.2 == q.2) = true by simpa using e']
      refine kat_yes (kat_nil ?_)
      rw [e, e'] at h
      simpa using h
    · rw [show (p.2 == q.2) = false by simpa using e']
      refine kat_no ?_
      show wpAny _ _ (oneLt' false _ _) _ _ _
      refine kat_one _ _ (wpAny_lt_int ?_)
      show C _ s
      rw [show decide (p.2 < q.2) = decide (100 * p.1 + p.2 < 100 * q.1 + q.2) from decide_eq_decide.mpr (by omega)]
      exact h
  · rw [show (p.1 == q.1) = false by simpa using e]
    refine kat_no ?_
    show wpAny _ _ (oneLt' true _ _) _ _ _
    refine oneLt_int ?_
    rw [show decide (p.1 < q.1) = decide (100 * p.1 + p.2 < 100 * q.1 + q.2) from decide_eq_decide.mpr (by omega)]
    exact h

theorem nodup_ne {α : Type} {l : List α} (hn : l.Nodup) {i j : Nat} (hi : i < l.length) (hj : j < l.length) (hij : i ≠ j) : l[i] ≠ l[j] := by
  have h := List.pairwise_iff_getElem.mp hn
  rcases Nat.lt_or_gt_of_ne hij with h' | h'
  · exact h i j hi hj h'
  · exact fun e => h j i hj hi h' e.symm
theorem map_getD_range {α : Type} (d : α) (l : List α) : (List.range l.length).map (fun i => l.getD i d) = l := by
  apply List.ext_getElem
  · simp
  · intro i h1 h2
    simp [List.getElem_map, List.getElem_range, List.getD_eq_getElem?_getD, List.getElem?_eq_getElem h2]

theorem datAll_getD (hd : DatAll news vs (ps.map pd)) : ∀ (l : List Nat), (∀ i ∈ l, i < ps.length) → DatAll news (l.map fun i => vs.getD i Value.none) ((l.map fun i => ps.getD i (0, 0)).map pd)
  | [], _ => .nil
  | i :: l, h => .cons (dat_getD hd (h i List.mem_cons_self)) (datAll_getD hd l fun j hj => h j (List.mem_cons_of_mem _ hj))

theorem kat_tups (N : News h₀ L s.heap news) : ∀ (vs : List Value) (ps : List (Int × Int)), DatAll news vs (ps.map pd) → ∃ fs, KatTups s.heap vs fs ∧ fs.length = ps.length ∧ ∀ v ∈ fs, ∃ a t, v = Value.int a t
  | [], ps, hd => by
    have := hd.length
    obtain rfl : ps = [] := List.length_eq_zero_iff.mp (by simpa using this.symm)
    exact ⟨[], trivial, rfl, fun _ h => nomatch h⟩
  | v :: vs, ps, hd => by
    match ps, hd with
    | p :: ps, hd =>
      rw [List.map_cons] at hd
      cases hd with
      | cons d r =>
        obtain ⟨fs, h1, h2, h3⟩ := kat_tups N vs ps r
        obtain ⟨a, n, t1, t2, e, hm⟩ := pd_inv d
        subst e
        exact ⟨.int p.1 t1 :: fs, KatTups.cons (N.get hm) rfl rfl rfl h1, by simp [h2], fun v hv => by
          rcases List.mem_cons.mp hv with rfl | hv
          · exact ⟨_, _, rfl⟩
          · exact h3 v hv⟩

/-- what a sort of pairs leaves -/
theorem sort_pairs_out (hd : DatAll news vs (ps.map pd)) (hn : ps.Nodup) (hk : ∀ p ∈ ps, 0 ≤ p.2 ∧ p.2 < 100) (h1 : 1 ≤ ps.length) :
    ∃ p ps', ev (klt fun i => pkey (ps.getD i (0, 0))) (kas_sort ps.length) = p ∧ DatAll news (p.toList.map fun i => vs.getD i Value.none) (List.map pd ps') ∧ ps'.Perm ps ∧ Asc ps' := by
  have inj : ∀ i j, i < ps.length → j < ps.length → i ≠ j → pkey (ps.getD i (0, 0)) ≠ pkey (ps.getD j (0, 0)) := by
    intro i j hi hj hij e
    have gi : ps.getD i (0, 0) = ps[i] := by rw [List.getD_eq_getElem?_getD, List.getElem?_eq_getElem hi]; rfl
    have gj : ps.getD j (0, 0) = ps[j] := by rw [List.getD_eq_getElem?_getD, List.getElem?_eq_getElem hj]; rfl
    rw [gi, gj] at e
    have r1 := hk _ (List.getElem_mem hi)
    have r2 := hk _ (List.getElem_mem hj)
    unfold pkey at e
    have e1 : ps[i].1 = ps[j].1 := by omega
    have e2 : ps[i].2 = ps[j].2 := by omega
    exact nodup_ne hn hi hj hij (Prod.ext e1 e2)
  obtain ⟨p, e, hp, hA⟩ := ev_sort h1 inj
  have hps : p.toList.Perm (List.range ps.length) := by simpa using Array.perm_iff_toList_perm.mp hp
  refine ⟨p, p.toList.map fun i => ps.getD i (0, 0), e, datAll_getD hd _ fun i hi => ?_, ?_, ?_⟩
  · simpa using hps.mem_iff.mp hi
  · have := hps.map fun i => ps.getD i (0, 0)
    rw [map_getD_range] at this
    exact this
  · have hsz : p.size = ps.length := by simpa using hp.size_eq
    unfold Asc
    rw [List.pairwise_iff_getElem]
    intro i j hi hj hij
    simp only [List.length_map, Array.length_toList] at hi hj
    simp only [List.getElem_map, Array.getElem_toList]
    have hle := hA.le (j - i) i (by omega)
    rw [show i + (j - i) = j by omega] at hle
    unfold at' at hle
    rw [show p.getD i 0 = p[i] by simp [Array.getD, hi], show p.getD j 0 = p[j] by simp [Array.getD, hj]] at hle
    have hnd : p.toList.Nodup := hps.nodup_iff.mpr List.nodup_range
    have hne : p[i] ≠ p[j] := by
      have := nodup_ne hnd (i := i) (j := j) (by simpa using hi) (by simpa using hj) (Nat.ne_of_lt hij)
      simpa using this
    have hlt : ∀ (k : Nat) (hk : k < p.size), p[k] < ps.length := fun k hk => by
      have := hps.mem_iff.mp (show p[k] ∈ p.toList by simp)
      simpa using this
    exact Int.lt_iff_le_and_ne.mpr ⟨hle, inj _ _ (hlt i hi) (hlt j hj) hne⟩

theorem pw_lt2 {α : Type} {R : α → α → Prop} : ∀ {l : List α}, l.length < 2 → l.Pairwise R
  | [], _ => .nil
  | [_], _ => List.pairwise_singleton _ _
  | _ :: _ :: _, h => absurd h (Nat.not_lt_of_le (Nat.le_add_left _ _))
theorem sorted_pairs {r : Value} {Q : Value → Shared → Prop} (F : Fr h₀ L s.heap m) (N : News h₀ L s.heap news) (hd : DatAll news vs (ps.map pd)) (hn : ps.Nodup) (hk : ∀ p ∈ ps, 0 ≤ p.2 ∧ p.2 < 100) (h64 : ps.length < 64)
    (hc : ∀ (Q' : List Value → Shared → Prop), (∀ h' tk, Fr h₀ L h' m → News h₀ L h' news → Q' vs { s with heap := h', toks := tk }) → wpAny (model prog w) A.in1 (collect r) Q' E s)
    (h : ∀ D c h' tk vs' ps', Fr h₀ L h' m → News h₀ L h' ((D, listOf vs'.toArray c) :: news) → (∀ q ∈ news, q.1 < D) → DatAll news vs' (ps'.map pd) → ps'.Perm ps → Asc ps' → Q (.ref D) { s with heap := h', toks := tk }) :
    wpAny (model prog w) A (call (.builtin "sorted") [r]) Q E s := by
  have hlen : vs.length = ps.length := by have := hd.length; simpa using this
  refine Calls.call_function_entry kind_sorted plain_sorted entry_sorted (args_sorted1 _) ?_
  unfold Builtin.«sorted»
  refine wpAny_bind (m := checkCount "sorted" 1 1 _) (wpAny_pure ?_)
  refine wpAny_bind (hc _ fun h' tk F' N' => ?_)
  refine wpAny_bind (wpAny_newList ?_ (by rw [sizeLine_eq]; omega))
  have hoL : (h'.push (seqObj "list" vs.toArray 0)).get? h'.objs.size = some (seqObj "list" vs.toArray 0) := Heap.get?_push_size _ rfl
  have hL : L < h'.objs.size := F'.ns.lt
  have F2 : Fr h₀ L (h'.push (seqObj "list" vs.toArray 0)) m := F'.push _
  have N2 : News h₀ L (h'.push (seqObj "list" vs.toArray 0)) news := N'.grown fun b o e => Heap.get?_push_of_some _ e
  have hfr : h₀.get? h'.objs.size = none := Heap.get?_none_of_le (Nat.le_trans F'.above (Nat.le_of_lt hL))
  have hlt : ∀ q ∈ news, q.1 < h'.objs.size := fun q hq => Heap.lt_size (N' q hq).1
  refine wpAny_bind (wpAny_holding (wpAny_call_entry slot_list_sort ⟨_, hoL, rfl⟩ entry_list_sort ?body (args_list_sort _)))
  case body =>
    by_cases h2 : 2 ≤ vs.length
    · refine kat_list_sort (s := { s with heap := h'.push (seqObj "list" vs.toArray 0), toks := tk }) F2 N2 hoL (Nat.ne_of_gt hL) hfr (fun q hq => Nat.ne_of_lt (hlt q hq)) h2 (by omega) fun e1 h3 F3 N3 => ?_
      obtain ⟨fs, k1, k2, k3⟩ := kat_tups (s := { s with heap := h3, toks := tk }) (fun p hp => N3 p (.tail _ hp)) vs ps hd
      refine kat_kind (T := .type "int") k1 (by omega) (fun v hv => by obtain ⟨a, t, rfl⟩ := k3 v hv; exact Looks.of_pure rfl) rfl ?_
      show (kas_sort vs.length).kasWp (kas_ask prog w _ (tuples' true) vs) _ _
      rw [hlen]
      obtain ⟨p, ps', ep, d', hp', ha'⟩ := sort_pairs_out hd hn hk (by omega)
      refine ev_in (n := ps.length) (lt := klt fun i => pkey (ps.getD i (0, 0))) (fun i j C hi hj hC => cmp_pair (fun p hp => N3 p (.tail _ hp)) hd hk hi hj hC) _ (in_sort (by omega)) ?_
      rw [ep]
      refine KasFin.intro F3 N3 (.head fun q hq => Nat.ne_of_lt (hlt q hq)) fun h4 c F4 N4 => ?_
      exact ⟨_, rfl, wpAny_pure ⟨_, rfl, h _ c h4 _ _ ps' F4 N4 hlt d' hp' ha'⟩⟩
    · have hs1 := Heap.SameBut.update (h'.push (seqObj "list" vs.toArray 0)) h'.objs.size (Obj.mapSeq fun _ => (#[] : Array Value))
      have hlt' : h'.objs.size < (h'.push (seqObj "list" vs.toArray 0)).objs.size := Heap.lt_size hoL
      obtain ⟨e1, ho1⟩ : ∃ e1, ((h'.push (seqObj "list" vs.toArray 0)).update h'.objs.size (Obj.mapSeq fun _ => (#[] : Array Value))).get? h'.objs.size = some (seqObj "list" #[] e1) := ⟨_, get?_update_seq hoL fun _ => #[]⟩
      have F3 := ((kas_fr F2 hs1 (Nat.ne_of_gt hL) hfr).push (seqObj "tuple" vs.toArray 0)).push (seqObj "list" #[] 0)
      have N3 : News h₀ L _ news := (kas_news N2 hs1 fun q hq => Nat.ne_of_lt (hlt q hq)).grown fun b x e => Heap.get?_push_of_some (seqObj "list" #[] 0) (Heap.get?_push_of_some (seqObj "tuple" vs.toArray 0) e)
      have ho3 := Heap.get?_push_of_some (seqObj "list" #[] 0) (Heap.get?_push_of_some (seqObj "tuple" vs.toArray 0) ho1)
      rw [list_sort_plain]
      refine wpAny_bind (listItems_at hoL rfl ?_)
      refine wpAny_bind (listUpdate_at hoL rfl ?_ (by rw [List.size_toArray, sizeLine_eq]; omega) (Nat.zero_le _))
      refine wpAny_bind (seqEpoch_at ho1 rfl ?_)
      refine wpAny_bind (wpAny_newTuple ?_ (by show vs.length ≤ _; rw [sizeLine_eq]; omega))
      refine wpAny_bind (wpAny_newList ?_ (Nat.zero_le _))
      refine wpAny_holding ?_
      dsimp only
      have hn2 : vs.toArray.size < 2 := by rw [List.size_toArray]; omega
      rw [if_pos hn2, if_pos hn2]
      refine wpAny_bind (wpAny_pure ?_)
      rw [StateT.run_pure]
      refine wpAny_bind (wpAny_pure ?_)
      dsimp only
      refine wpAny_bind (seqEpoch_at ho3 rfl ?_)
      have hout : (arrOf (SortSt.mk' general' (vs.toArray.zip vs.toArray) #[] 7 none)).map (·.2) = vs.toArray := by
        show (vs.toArray.zip vs.toArray).map (·.2) = vs.toArray
        apply Array.toList_inj.mp
        simp only [Array.toList_map, Array.toList_zip]
        exact List.map_snd_zip (Nat.le_refl _)
      rw [hout]
      refine wpAny_bind (listUpdate_at ho3 rfl ?_ (hsz2 := by rw [List.size_toArray, sizeLine_eq]; omega))
      have hs2 := Heap.SameBut.update ((((h'.push (seqObj "list" vs.toArray 0)).update h'.objs.size (Obj.mapSeq fun _ => (#[] : Array Value))).push (seqObj "tuple" vs.toArray 0)).push (seqObj "list" #[] 0)) h'.objs.size (Obj.mapSeq fun _ => vs.toArray)
      obtain ⟨c2, hc2⟩ : ∃ c2, (((((h'.push (seqObj "list" vs.toArray 0)).update h'.objs.size (Obj.mapSeq fun _ => (#[] : Array Value))).push (seqObj "tuple" vs.toArray 0)).push (seqObj "list" #[] 0)).update h'.objs.size (Obj.mapSeq fun _ => vs.toArray)).get? h'.objs.size = some (seqObj "list" vs.toArray c2) := ⟨_, get?_update_seq ho3 fun _ => vs.toArray⟩
      simp only [bne_self_eq_false, Bool.false_eq_true, if_false]
      show wpAny _ _ (pure _) _ _ _
      refine wpAny_pure ⟨_, rfl, wpAny_pure ⟨_, rfl, h h'.objs.size c2 _ tk vs ps (kas_fr F3 hs2 (Nat.ne_of_gt hL) hfr) (fun q hq => ?_) hlt hd (List.Perm.refl _) ?_⟩⟩
      · rcases List.mem_cons.mp hq with rfl | hq
        · exact ⟨hc2, Nat.ne_of_gt hL, hfr⟩
        · exact kas_news N3 hs2 (fun q hq => Nat.ne_of_lt (hlt q hq)) q hq
      · unfold Asc
        exact pw_lt2 (by omega)
end
end
section
section
variable {prog : Program} {w : World} {A : Around} {E : Value → Shared → Prop} {s : Shared} {h₀ : Heap} {L : Addr} {m : Str → Option Value} {news : List (Addr × Obj)} {vs : List Value}
theorem coll_list {l : Addr} {c : Nat} (F : Fr h₀ L s.heap m) (N : News h₀ L s.heap news) (hm : (l, listOf vs.toArray c) ∈ news) (hz : vs.length ≤ 100000) (Q' : List Value → Shared → Prop)
    (h : ∀ h' tk, Fr h₀ L h' m → News h₀ L h' news → Q' vs { s with heap := h', toks := tk }) : wpAny (model prog w) A (collect (.ref l)) Q' E s := by
  refine collect_list ⟨_, N.get hm, rfl, _, rfl⟩ ?_ (by rw [sizeLine_eq]; omega)
  have keep : ∀ b o, s.heap.get? b = some o → ((s.heap.push (seqObj "list" #[] 0)).update s.heap.objs.size (Obj.mapSeq (· ++ vs.toArray))).get? b = some o := fun b o q => by
    rw [Heap.get?_update_ne _ _ _ _ (Nat.ne_of_lt (Heap.lt_size q)), Heap.get?_push_ne _ _ _ (Nat.ne_of_lt (Heap.lt_size q))]
    exact q
  exact h _ s.toks (F.kept keep) (N.grown keep)

theorem proto_dict {d : Addr} {es : Array DictEntry} {ep : Nat} (lo : (d == sysModules) = false) (hh : A.handled = none) (hd : s.heap.get? d = some (dctO es ep)) (hz : es.size ≤ 100000) {R : Result → Shared → Prop}
    (h : ∀ h' tk acc' c', (∀ b o, s.heap.get? b = some o → h'.get? b = some o) → h'.get? s.heap.objs.size = some { cls := .type "list", dict := none, data := .seq acc' c', slots := #[] } → acc'.toList = es.toList.map (·.key) →
      R (.ok (.ret (.ref s.heap.objs.size))) { s with heap := h', toks := tk }) : codeAny (model prog w) A (.builtin "proto.collect" ⟨[.ref d], []⟩) R s := by
  refine codeAny_builtin entry_proto_collect' ?_
  show wpAny _ _ (do again (.builtin "list.__iadd__" ⟨[← newList [], .ref d], []⟩)) _ _ s
  refine wpAny_bind (wpAny_newList (wpAny_pure ⟨Code.quiet_builtin _ (by decide +kernel), codeAny_builtin entry_list_iadd' ?_⟩) (Nat.zero_le _))
  have hlt : d < s.heap.objs.size := Heap.lt_size hd
  have hS : (s.heap.push (seqObj "list" #[] 0)).get? s.heap.objs.size = some { cls := .type "list", data := .seq #[] 0 } := Heap.get?_push_size _ rfl
  show wpAny _ _ (Builtin.List.listExtendWith (.ref s.heap.objs.size) (.ref d) (.ref s.heap.objs.size)) _ _ { s with heap := s.heap.push (seqObj "list" #[] 0) }
  refine kdl_extend (A := A) (R := R) (s := { s with heap := s.heap.push (seqObj "list" #[] 0) }) (src_raw (prog := prog) (w := w) (es := es) (ep := ep) lo) hh (Heap.get?_push_of_some _ hd) s.heap.objs.size (Nat.ne_of_gt hlt) (Nat.ne_of_gt hlt) (.ref s.heap.objs.size) 0 hS
    (fun h' tk acc' c' hk hD hacc => ?_) (by rw [sizeLine_eq]; omega)
  have keep : ∀ b o, s.heap.get? b = some o → h'.get? b = some o := fun b o q => hk b o (Nat.ne_of_lt (Heap.lt_size q)) (Heap.get?_push_of_some _ q)
  refine h h' tk acc' c' keep hD ?_
  apply List.ext_getElem?
  intro i
  rw [Array.getElem?_toList, List.getElem?_map, Array.getElem?_toList]
  by_cases hi : i < es.size
  · have hi' : i < acc'.size := by rw [hacc.1]; exact hi
    obtain ⟨e, he, e2⟩ := hacc.2 i acc'[i] (Array.getElem?_eq_getElem hi')
    rw [he, Array.getElem?_eq_getElem hi', e2]
    rfl
  · rw [Array.getElem?_eq_none (by rw [hacc.1]; omega), Array.getElem?_eq_none (by omega)]
    rfl

theorem coll_dict {d : Addr} {es : Array DictEntry} {ep : Nat} (lo : (d == sysModules) = false) (hh : A.handled = none) (F : Fr h₀ L s.heap m) (N : News h₀ L s.heap news) (hm : (d, dctO es ep) ∈ news) (hz : es.size ≤ 100000)
    (Q' : List Value → Shared → Prop) (h : ∀ h' tk, Fr h₀ L h' m → News h₀ L h' news → Q' (es.toList.map (·.key)) { s with heap := h', toks := tk }) : wpAny (model prog w) A (collect (.ref d)) Q' E s := by
  unfold collect
  refine wpAny_bind (wpAny_runValue (proto_dict lo hh (N.get hm) hz fun h' tk acc' c' keep hD e => ?_))
  show wpAny (model prog w) A (do
      let o ← load s.heap.objs.size
      match o.data with
      | .seq xs _ => pure xs.toList
      | _ => unsupported "internal:collect") Q' E { s with heap := h', toks := tk }
  refine wpAny_bind (wpAny_load hD ?_)
  show wpAny _ _ (pure acc'.toList) _ _ _
  rw [e]
  exact wpAny_pure (h h' tk (F.kept keep) (N.grown keep))
end
end
section
noncomputable abbrev Row := (Int × Int) × Addr × Value
noncomputable def ky (p : Int × Int) : List Int := [p.1, p.2]
theorem ky_inj {p q : Int × Int} (h : ky p = ky q) : p = q := by
  simp only [ky, List.cons.injEq, and_true] at h
  exact Prod.ext h.1 h.2
noncomputable def tabLook (xs : List Row) (k : Int × Int) : Option Value := (xs.find? fun x => decide (x.1 = k)).map (·.2.2)
noncomputable def tabPut (xs : List Row) (k : Int × Int) (a : Addr) (v : Value) : List Row :=
  if (tabLook xs k).isSome then xs.map (fun x => if x.1 = k then (x.1, x.2.1, v) else x) else xs ++ [(k, a, v)]
noncomputable def kyR (x : Row) : List Int × Addr × Value := (ky x.1, x.2)
theorem find_ky (xs : List Row) (k : Int × Int) : atKey (xs.map kyR) (ky k) = (xs.find? fun x => decide (x.1 = k)).map (·.2) := by
  unfold atKey
  rw [List.find?_map]
  have e : ((fun x : List Int × Addr × Value => decide (x.1 = ky k)) ∘ kyR) = fun x : Row => decide (x.1 = k) := by
    funext x
    exact decide_eq_decide.mpr ⟨ky_inj, fun h => by show ky x.1 = ky k; rw [h]⟩
  rw [e, Option.map_map]
  rfl
theorem put_ky (xs : List Row) (k : Int × Int) (a : Addr) (v : Value) : storedH (xs.map kyR) (ky k) a v = (tabPut xs k a v).map kyR := by
  unfold storedH tabPut tabLook
  rw [find_ky]
  simp only [Option.isSome_map]
  by_cases h : (xs.find? fun x => decide (x.1 = k)).isSome = true
  · rw [if_pos h, if_pos h, List.map_map, List.map_map]
    refine List.map_congr_left fun x _ => ?_
    show putAt (ky k) v (kyR x) = kyR (if x.1 = k then (x.1, x.2.1, v) else x)
    by_cases hx : x.1 = k
    · rw [if_pos hx, putAt, if_pos (by show ky x.1 = ky k; rw [hx])]; rfl
    · rw [if_neg hx, putAt, if_neg (fun e : (kyR x).1 = ky k => hx (ky_inj e))]
  · rw [if_neg h, if_neg h, List.map_append]; rfl

noncomputable def entP (prog : Program) (w : World) (x : Row) : DictEntry := entryOfKey (tupleKind (intKind prog w)) (kyR x)
structure Tab (prog : Program) (w : World) (news : List (Addr × Obj)) (d : Addr) (xs : List Row) (ep : Nat) : Prop where
  lo : (d == sysModules) = false
  mem : (d, dctO (xs.map (entP prog w)).toArray ep) ∈ news
  keys : ∀ x ∈ xs, DatIn news (.ref x.2.1) (pd x.1)
  nodup : (xs.map (·.1)).Nodup

section
variable {prog : Program} {w : World} {A : Around} {E : Value → Shared → Prop} {s : Shared} {h₀ : Heap} {L : Addr} {m : Str → Option Value} {news : List (Addr × Obj)} {vs : List Value} {d a : Addr} {xs : List Row} {ep : Nat} {k : Int × Int}

theorem key_at {h : Heap} (N : News h₀ L h news) (hk : DatIn news (.ref a) (pd k)) : (tupleKind (intKind prog w)).is h (ky k) a := by
  obtain ⟨b, n, t1, t2, e, hm⟩ := pd_inv hk
  obtain rfl : a = b := Value.ref.inj e
  exact ⟨_, _, _, N.get hm, rfl, rfl, .cons (by simp [intKind, Value.isInt]) (.cons (by simp [intKind, Value.isInt]) .nil)⟩
theorem Tab.at (T : Tab prog w news d xs ep) {h : Heap} (N : News h₀ L h news) : h.DictOfH (tupleKind (intKind prog w)) d (xs.map kyR) := by
  refine ⟨_, _, _, N.get T.mem, ⟨rfl, rfl, rfl⟩, rfl, ?_, ?_, ?_⟩
  · rw [List.map_map]; rfl
  · intro x hx
    obtain ⟨y, hy, rfl⟩ := List.mem_map.mp hx
    exact key_at N (T.keys y hy)
  · rw [List.map_map]
    have e : (xs.map ((·.1) ∘ kyR)) = (xs.map (·.1)).map ky := by rw [List.map_map]; rfl
    rw [e]
    exact List.Pairwise.map ky (fun p q h e => h (ky_inj e)) T.nodup

theorem tab_get {v : Value} {Q : Value → Shared → Prop} (N : News h₀ L s.heap news) (T : Tab prog w news d xs ep) (hk : DatIn news (.ref a) (pd k)) (hu : A.units + 1 < cLine) (hv : tabLook xs k = some v)
    (h : ∀ tk, Q v { s with toks := tk }) : wpAny (model prog w) A (getItem (.ref d) (.ref a)) Q E s := by
  unfold tabLook at hv
  obtain ⟨x, hx, e⟩ := Option.map_eq_some_iff.mp hv
  refine wpAny_getItem_heap (p := x.2) (tupleKind_room_in1 hu) (key_at N hk) (T.at N) (by rw [find_ky, hx]; rfl) ?_
  rw [e]
  exact h _

theorem entries_of {o : Obj} {es : Array DictEntry} {ep : Nat} (hc : o.ExactDict) (hd : o.data = .dict es ep) : o = dctO es ep := by
  obtain ⟨c, dd, dt, sl⟩ := o
  obtain ⟨h1, h2, h3⟩ := hc
  cases h1; cases h2; cases h3; cases hd
  rfl

theorem tab_dictSet {v : Value} {g : Obj → List (Addr × Obj)} {Q : Unit → Shared → Prop} (F : Fr h₀ L s.heap m) (N : News h₀ L s.heap news) (T : Tab prog w news d xs ep) (hk : DatIn news (.ref a) (pd k)) (hu : A.units < cLine) (hz : xs.length ≤ 100000)
    (U : UpdF d (dctO (xs.map (entP prog w)).toArray ep) news g)
    (h : ∀ h' tk ep', Heap.SameBut d s.heap h' → Fr h₀ L h' m → News h₀ L h' (g (dctO ((tabPut xs k a v).map (entP prog w)).toArray ep')) → Q () { s with heap := h', toks := tk }) : wpAny (model prog w) A (dictSet d (.ref a) v) Q E s := by
  refine wpAny_dictSet_heap (knd := tupleKind (intKind prog w)) hu (key_at N hk) (T.at N) (fun h' hm hs => ?_) (by rw [List.length_map, sizeLine_eq]; omega)
  obtain ⟨o, es, ep', ho, hc, hd, he, _, _⟩ := hm
  have heq := entries_of hc hd
  rw [put_ky, List.map_map] at he
  have hes : es = ((tabPut xs k a v).map (entP prog w)).toArray := by
    apply Array.toList_inj.mp
    rw [he]; rfl
  rw [heq, hes] at ho
  obtain ⟨pre, post, e0, hg, x1, x2⟩ := U.split
  have nd := N _ T.mem
  refine h h' _ ep' hs (kas_fr F hs nd.2.1 nd.2.2) ?_
  rw [hg]
  rw [e0] at N
  exact news_set N x1 x2 hs ho
theorem tab_set {v : Value} {g : Obj → List (Addr × Obj)} {Q : Unit → Shared → Prop} (F : Fr h₀ L s.heap m) (N : News h₀ L s.heap news) (T : Tab prog w news d xs ep) (hk : DatIn news (.ref a) (pd k)) (hu : A.units + 1 < cLine) (hz : xs.length ≤ 100000)
    (U : UpdF d (dctO (xs.map (entP prog w)).toArray ep) news g)
    (h : ∀ h' tk ep', Fr h₀ L h' m → News h₀ L h' (g (dctO ((tabPut xs k a v).map (entP prog w)).toArray ep')) → Q () { s with heap := h', toks := tk }) : wpAny (model prog w) A (setItem (.ref d) (.ref a) v) Q E s := by
  refine wpAny_setItem_heap (knd := tupleKind (intKind prog w)) (tupleKind_room_in1 hu) (key_at N hk) (T.at N) (fun h' hm hs => ?_) (by rw [List.length_map, sizeLine_eq]; omega)
  obtain ⟨o, es, ep', ho, hc, hd, he, _, _⟩ := hm
  have heq := entries_of hc hd
  rw [put_ky, List.map_map] at he
  have hes : es = ((tabPut xs k a v).map (entP prog w)).toArray := by
    apply Array.toList_inj.mp
    rw [he]; rfl
  rw [heq, hes] at ho
  obtain ⟨pre, post, e0, hg, x1, x2⟩ := U.split
  have nd := N _ T.mem
  refine h h' _ ep' (kas_fr F hs nd.2.1 nd.2.2) ?_
  rw [hg]
  rw [e0] at N
  exact news_set N x1 x2 hs ho
end
end
section
theorem plain_upd : plainId "dict.update.loop" = true := by decide +kernel
theorem entry_upd : entryFor table "dict.update.loop" = some Builtin.«dict.update.loop» := entryFor_of_fast (by kernel_rfl)
theorem miss_keys : typeLookup (.type "list") "keys" = pure none := am_miss_of_fast (by decide +kernel)
section
variable {prog : Program} {w : World} {A : Around} {E : Value → Shared → Prop} {s : Shared}
theorem no_keys {a : Addr} {xs : Array Value} {k : Nat} {Q : Option Value → Shared → Prop} (hx : s.heap.get? a = some (listOf xs k)) (hA : A.handled = none)
    (h : ∀ h' tk, (∀ b o, s.heap.get? b = some o → h'.get? b = some o) → Q none { s with heap := h', toks := tk }) : wpAny (model prog w) A (getAttr? (.ref a) "keys") Q E s := by
  obtain ⟨hp, g, d, tk, os⟩ := s
  have hT : ∀ tk', (⟨hp, g, d, tk', os⟩ : Shared).TypeIs (.ref a) "list" := fun _ => ⟨_, hx, rfl⟩
  have f1 := sub_AttributeError
  have f3 := F.slot_list_getattribute.lookup
  have f4 := F.slot_list_getattribute.bind (.ref a)
  have f5 := am_list_getattr_none
  unfold getAttr? getAttrBy? getAttrBy
  repeat (any_goals (first | assumption | exact hT _ | ((with_reducible show wpAny _ _ (call (Value.builtin "list.__getattribute__") _ _) _ _ _); refine call_meets F.slot_list_getattribute (hT _) am_entry_list_getattribute (F.args_list_getattribute_2 _ _) (meets_getattribute_miss_list a xs k #[] "keys" _ miss_keys (by decide +kernel)) ⟨hx, hA, fun h' tk' e hx' => ?_⟩) | wp_step))
  obtain ⟨t', u', he⟩ := hx'.there
  show wpAny _ _ (getattributeRaised _ _ _ _ _ _ _) _ _ _
  unfold getattributeRaised
  repeat (any_goals (first | assumption | wp_step))
  exact h _ _ hx'.of.keeps
end

noncomputable abbrev KV := (Int × Int) × Value
noncomputable def putL (D : List KV) (k : Int × Int) (v : Value) : List KV := if (D.find? fun x => decide (x.1 = k)).isSome then D.map (fun x => if x.1 = k then (x.1, v) else x) else D ++ [(k, v)]
noncomputable def kvR (x : Row) : KV := (x.1, x.2.2)
theorem kv_put (xs : List Row) (k : Int × Int) (a : Addr) (v : Value) : (tabPut xs k a v).map kvR = putL (xs.map kvR) k v := by
  unfold tabPut putL tabLook
  rw [List.find?_map]
  simp only [Option.isSome_map]
  have e : ((fun x : KV => decide (x.1 = k)) ∘ kvR) = fun x : Row => decide (x.1 = k) := rfl
  rw [e]
  by_cases h : (xs.find? fun x => decide (x.1 = k)).isSome = true
  · rw [if_pos h, if_pos h, List.map_map, List.map_map]
    refine List.map_congr_left fun x _ => ?_
    show kvR (if x.1 = k then (x.1, x.2.1, v) else x) = if x.1 = k then (x.1, v) else kvR x
    by_cases hx : x.1 = k
    · rw [if_pos hx, if_pos hx]; rfl
    · rw [if_neg hx, if_neg hx]
  · rw [if_neg h, if_neg h, List.map_append]; rfl
theorem put_keys (xs : List Row) (k : Int × Int) (a : Addr) (v : Value) (hn : (xs.map (·.1)).Nodup) : ((tabPut xs k a v).map (·.1)).Nodup := by
  unfold tabPut tabLook
  simp only [Option.isSome_map]
  by_cases h : (xs.find? fun x => decide (x.1 = k)).isSome = true
  · rw [if_pos h, List.map_map]
    have e : xs.map ((·.1) ∘ fun x : Row => if x.1 = k then (x.1, x.2.1, v) else x) = xs.map (·.1) := List.map_congr_left fun x _ => by
      show (if x.1 = k then (x.1, x.2.1, v) else x).1 = x.1
      by_cases hx : x.1 = k
      · rw [if_pos hx]
      · rw [if_neg hx]
    rw [e]; exact hn
  · rw [if_neg h, List.map_append, List.nodup_append]
    refine ⟨hn, by simp, fun x hx y hy => ?_⟩
    obtain ⟨z, hz, rfl⟩ := List.mem_map.mp hx
    simp only [List.map_cons, List.map_nil, List.mem_singleton] at hy
    subst hy
    intro e
    apply h
    rw [List.find?_isSome]
    exact ⟨z, hz, decide_eq_true e⟩
theorem put_mem {xs : List Row} {k : Int × Int} {a : Addr} {v : Value} {x : Row} (hx : x ∈ tabPut xs k a v) : (∃ y ∈ xs, y.1 = x.1 ∧ y.2.1 = x.2.1) ∨ x = (k, a, v) := by
  unfold tabPut at hx
  split at hx
  · obtain ⟨y, hy, rfl⟩ := List.mem_map.mp hx
    by_cases h : y.1 = k
    · rw [if_pos h]; exact .inl ⟨y, hy, rfl, rfl⟩
    · rw [if_neg h]; exact .inl ⟨y, hy, rfl, rfl⟩
  · rcases List.mem_append.mp hx with h | h
    · exact .inl ⟨x, h, rfl, rfl⟩
    · exact .inr (List.mem_singleton.mp h)
theorem put_length (xs : List Row) (k : Int × Int) (a : Addr) (v : Value) : (tabPut xs k a v).length ≤ xs.length + 1 := by
  unfold tabPut
  split
  · rw [List.length_map]; omega
  · rw [List.length_append]; exact Nat.le_refl _

inductive PairsIn (news : List (Addr × Obj)) : List Value → List KV → Prop
  | nil : PairsIn news [] []
  | cons {q a : Addr} {p : Int × Int} {v : Value} {n : Nat} {vs : List Value} {ps : List KV} : (q, ({ cls := .type "tuple", data := .seq [.ref a, v].toArray n } : Obj)) ∈ news → DatIn news (.ref a) (pd p) → PairsIn news vs ps → PairsIn news (.ref q :: vs) ((p, v) :: ps)
theorem PairsIn.length {news : List (Addr × Obj)} {vs : List Value} {ps : List KV} (h : PairsIn news vs ps) : vs.length = ps.length := by
  induction h with
  | nil => rfl
  | cons _ _ _ ih => simp [ih]
theorem PairsIn.mono {news news' : List (Addr × Obj)} (hs : ∀ p ∈ news, p ∈ news') {vs : List Value} {ps : List KV} (h : PairsIn news vs ps) : PairsIn news' vs ps := by
  induction h with
  | nil => exact .nil
  | cons h1 h2 _ ih => exact .cons (hs _ h1) (h2.mono hs) ih
theorem PairsIn.snoc {news : List (Addr × Obj)} {vs : List Value} {ps : List KV} (h : PairsIn news vs ps) {q a : Addr} {p : Int × Int} {v : Value} {n : Nat} (h1 : (q, ({ cls := .type "tuple", data := .seq [.ref a, v].toArray n } : Obj)) ∈ news) (h2 : DatIn news (.ref a) (pd p)) :
    PairsIn news (vs ++ [.ref q]) (ps ++ [(p, v)]) := by
  induction h with
  | nil => exact .cons h1 h2 .nil
  | cons a b _ ih => exact .cons a b ih

section
variable {prog : Program} {w : World} {A : Around} {E : Value → Shared → Prop} {h₀ : Heap} {L : Addr} {m : Str → Option Value} {news : List (Addr × Obj)}

noncomputable def tabD (prog : Program) (w : World) (xs : List Row) (ep : Nat) : Obj := dctO (xs.map (entP prog w)).toArray ep

theorem pairs_loop (hh : A.handled = none) (hu : A.units + 2 < cLine) {D it l : Addr} {c : Nat} {all : List Value} (lo : (D == sysModules) = false) (hDn : ∀ q ∈ news, q.1 ≠ D) (hin : ∀ q ∈ news, q.1 ≠ it) (hiD : it ≠ D) (hiL : it ≠ L) (hi0 : h₀.get? it = none)
    (hl : (l, listOf all.toArray c) ∈ news) {res : Value} {R : Result → Shared → Prop} :
    ∀ (vs : List Value) (ps : List KV) (i : Nat) (t : Tok) (xs : List Row) (ep : Nat) (s : Shared), PairsIn news vs ps → all.drop i = vs → s.heap.IsListIter it l i → Fr h₀ L s.heap m → News h₀ L s.heap ((D, tabD prog w xs ep) :: news) →
      (∀ x ∈ xs, DatIn news (.ref x.2.1) (pd x.1)) → (xs.map (·.1)).Nodup → xs.length + ps.length ≤ 10000 →
      (∀ h' tk xs' ep', Fr h₀ L h' m → News h₀ L h' ((D, tabD prog w xs' ep') :: news) → (∀ x ∈ xs', DatIn news (.ref x.2.1) (pd x.1)) → (xs'.map (·.1)).Nodup → xs'.map kvR = ps.foldl (fun D p => putL D p.1 p.2) (xs.map kvR) →
        R (.ok (.ret res)) { s with heap := h', toks := tk }) →
      codeAny (model prog w) A (.builtin "dict.update.loop" ⟨[.ref D, .ref it, .int i t, res], []⟩) R s
  | [], ps, i, t, xs, ep, s, hp, hd, hit, F, N, hk, hn, hz, hR => by
    cases hp
    refine codeAny_builtin entry_upd ?_
    rw [Around.under_plainId plain_upd _]
    show wpAny _ A.in1 (pyNext (.ref it) >>= _) _ _ s
    have hln := N.get (List.mem_cons_of_mem _ hl)
    refine wpAny_bind (wpAny_pyNext_list_end (show A.in1.handled = none from hh) hit ⟨_, hln, rfl, _, rfl⟩ ?_ fun h' hx => ?_)
    · have : all.length ≤ i := List.drop_eq_nil_iff.mp hd
      simp [this]
    · show wpAny _ _ (Builtin.Dict.addKeywords D [] >>= _) _ _ _
      refine wpAny_bind (wpAny_pure (wpAny_pure ?_))
      have keep : ∀ b o, b ≠ it → s.heap.get? b = some o → h'.get? b = some o := fun b o hb e => hx b o hb e
      have hne : ∀ q ∈ (D, tabD prog w xs ep) :: news, q.1 ≠ it := fun q hq => by
        rcases List.mem_cons.mp hq with rfl | hq
        · exact hiD.symm
        · exact hin q hq
      refine hR h' s.toks xs ep ⟨F.ns.at' fun o e => keep _ o hiL.symm e, fun b x e => ?_, F.above⟩ (fun q hq => ⟨keep _ _ (hne q hq) (N q hq).1, (N q hq).2⟩) hk hn rfl
      exact keep b x (fun q => by rw [q, hi0] at e; cases e) (F.keep b x e)
  | v :: vs, ps, i, t, xs, ep, s, hp, hd, hit, F, N, hk, hn, hz, hR => by
    cases hp with
    | @cons q a p v n _ ps hq ha hp =>
    refine codeAny_builtin entry_upd ?_
    rw [Around.under_plainId plain_upd _]
    show wpAny _ A.in1 (pyNext (.ref it) >>= _) _ _ s
    have hln := N.get (List.mem_cons_of_mem _ hl)
    have hget : all.toArray[i]? = some (.ref q) := by
      have : (all.drop i)[0]? = some (.ref q) := by rw [hd]; rfl
      simpa using this
    refine wpAny_bind (wpAny_pyNext_list_item hit ⟨_, hln, rfl, _, rfl⟩ hget fun h' hit' hs => ?_)
    have hne : ∀ q ∈ (D, tabD prog w xs ep) :: news, q.1 ≠ it := fun q hq => by
      rcases List.mem_cons.mp hq with rfl | hq
      · exact hiD.symm
      · exact hin q hq
    have F1 : Fr h₀ L h' m := kas_fr F hs hiL hi0
    have N1 : News h₀ L h' ((D, tabD prog w xs ep) :: news) := kas_news N hs hne
    show wpAny _ _ (holding [.ref q] _ >>= _) _ _ _
    refine wpAny_bind (wpAny_holding ?_)
    refine wpAny_bind (wpAny_tryCatch ?_)
    have hqo := N1.get (List.mem_cons_of_mem _ hq)
    refine wpAny_bind (m := typeOf _) (wpAny_typeOf (T := "tuple") ⟨_, hqo, rfl⟩ ?_)
    rw [if_pos (by decide)]
    refine wpAny_bind (wpAny_seqItems hqo rfl (wpAny_pure ?_))
    show wpAny _ _ (holding [.ref a, v] (dictSet D (.ref a) v)) _ _ _
    refine wpAny_holding ?_
    have T1 : Tab prog w ((D, tabD prog w xs ep) :: news) D xs ep := ⟨lo, .head _, fun x hx => (hk x hx).mono fun _ h => .tail _ h, hn⟩
    rw [List.length_cons] at hz
    refine tab_dictSet (s := { s with heap := h' }) F1 N1 T1 (ha.mono fun _ h => .tail _ h) (by show A.units + 1 < cLine; omega) (by omega) (.head hDn) fun h2 tk ep' hs2 F2 N2 => ?_
    refine wpAny_pure ⟨plainId_quiet plain_upd _, ?_⟩
    have hit2 : h2.IsListIter it l (i + 1) := let ⟨o, ho, r⟩ := hit'; ⟨o, (hs2.2 it hiD).trans ho, r⟩
    refine pairs_loop hh hu lo hDn hin hiD hiL hi0 hl vs ps (i + 1) 0 (tabPut xs p a v) ep' { s with heap := h2, toks := tk } hp ?_ hit2 F2 N2 ?_ (put_keys _ _ _ _ hn) ?_ fun h3 tk3 xs3 ep3 F3 N3 k3 n3 e3 => ?_
    · have := congrArg (List.drop 1) hd
      simpa [List.drop_drop, Nat.add_comm] using this
    · intro x hx
      rcases put_mem hx with ⟨y, hy, e1, e2⟩ | rfl
      · rw [← e1, ← e2]; exact hk y hy
      · exact ha
    · have := put_length xs p a v; omega
    · refine hR h3 tk3 xs3 ep3 F3 N3 k3 n3 ?_
      rw [e3, kv_put]; rfl

theorem dict_pairs {s : Shared} {l : Addr} {c : Nat} {vs : List Value} {ps : List KV} {Q : Value → Shared → Prop} (hh : A.handled = none) (hu : A.units + 3 < cLine) (F : Fr h₀ L s.heap m) (N : News h₀ L s.heap news) (hbig : sysModules < h₀.objs.size)
    (hl : (l, listOf vs.toArray c) ∈ news) (hp : PairsIn news vs ps) (hz : ps.length ≤ 10000)
    (h : ∀ D h' tk xs ep, Fr h₀ L h' m → News h₀ L h' ((D, tabD prog w xs ep) :: news) → (D == sysModules) = false → (∀ q ∈ news, q.1 < D) → (∀ x ∈ xs, DatIn news (.ref x.2.1) (pd x.1)) → (xs.map (·.1)).Nodup → xs.map kvR = ps.foldl (fun D p => putL D p.1 p.2) [] → Q (.ref D) { s with heap := h', toks := tk }) :
    wpAny (model prog w) A (call (.type "dict") [.ref l]) Q E s := by
  refine callType_codes (Q₁ := fun obj s₁ => obj = .ref s.heap.objs.size ∧ s₁ = { s with heap := s.heap.push { cls := .type "dict", data := .dict #[] } }) PySem.F.kt_called_dict (PySem.F.kt_typeCall_dict_1 _) PySem.F.entry_dict_init (kt_code_dict_new _ ⟨rfl, rfl⟩) ?_
  rintro obj s₁ ⟨rfl, rfl⟩
  have hD : (s.heap.push { cls := .type "dict", data := .dict #[] }).get? s.heap.objs.size = some (dctO #[] 0) := Heap.get?_push_size _ rfl
  have N1 : News h₀ L (s.heap.push { cls := .type "dict", data := .dict #[] }) ((s.heap.objs.size, tabD prog w [] 0) :: news) := News.push F N { cls := .type "dict", data := .dict #[] }
  have F1 : Fr h₀ L (s.heap.push { cls := .type "dict", data := .dict #[] }) m := F.push _
  have hTd : ({ s with heap := s.heap.push { cls := .type "dict", data := .dict #[] } } : Shared).TypeIs (.ref s.heap.objs.size) "dict" := ⟨_, hD, rfl⟩
  refine ⟨hTd, PySem.F.args_dict_init_2 _ _, ?_⟩
  unfold Builtin.«dict.__init__»
  refine wpAny_bind ?_
  unfold Builtin.Dict.selfAndRest
  refine wpAny_bind (wpAny_notOrdered_dict hTd ?_)
  show wpAny _ _ (pure (s.heap.objs.size, [Value.ref l])) _ _ _
  refine wpAny_pure ?_
  show wpAny _ _ (Builtin.Dict.updateFrom "dict.__init__" s.heap.objs.size (.ref l) [] .none) _ _ _
  unfold Builtin.Dict.updateFrom
  have hlo := N1.get (List.mem_cons_of_mem _ hl)
  refine wpAny_bind (wpAny_typeOf (T := "list") ⟨_, hlo, rfl⟩ ?_)
  rw [if_pos (by decide)]
  refine wpAny_bind (no_keys hlo hh fun h1 tk1 keep1 => ?_)
  rw [if_pos (show (none : Option Value).isNone = true from rfl)]
  refine wpAny_bind (wpAny_rule ?_)
  have F2 : Fr h₀ L h1 m := F1.kept keep1
  have N2 : News h₀ L h1 ((s.heap.objs.size, tabD prog w [] 0) :: news) := N1.grown keep1
  have hlo2 := N2.get (List.mem_cons_of_mem _ hl)
  refine wpAny_bind (wpAny_pyIter_list (s := { s with heap := h1, toks := tk1 }) ⟨_, hlo2, rfl, _, rfl⟩ (wpAny_pure ⟨plainId_quiet plain_upd _, ?_⟩))
  have hlt : ∀ q ∈ (s.heap.objs.size, tabD prog w [] 0) :: news, q.1 < h1.objs.size := fun q hq => Heap.lt_size (N2 q hq).1
  refine pairs_loop (A := A.in1) (news := news) hh (by show A.units + 1 + 2 < cLine; omega) (F.notModules hbig) N.apart (fun q hq => Nat.ne_of_lt (hlt q (.tail _ hq))) (Nat.ne_of_gt (hlt _ (.head _))) (Nat.ne_of_gt F2.ns.lt) (Heap.get?_none_of_le (Nat.le_trans F2.above (Nat.le_of_lt F2.ns.lt)))
    hl vs ps 0 0 [] 0 _ hp rfl ⟨_, Heap.get?_push_size _ rfl, rfl, rfl⟩ (F2.push _) (N2.grown fun b o e => Heap.get?_push_of_some _ e) (fun _ h => nomatch h) List.nodup_nil (by simpa using hz) fun h3 tk3 xs3 ep3 F3 N3 k3 n3 e3 => ?_
  exact ⟨rfl, h _ h3 tk3 xs3 ep3 F3 N3 (F.notModules hbig) (fun q hq => Heap.lt_size (N q hq).1) k3 n3 e3⟩
end
end
section
section
variable {prog : Program} {w : World} {A : Around} {E : Value → Shared → Prop} {s : Shared} {env : Env} {h₀ : Heap} {Q : Flow → Shared → Prop}
/-- the turns of a for over vs, in order, by an invariant -/
noncomputable def Turns (prog : Program) (w : World) (A : Around) (env : Env) (h₀ : Heap) (x : Str) (body : List Stmt) (Q : Flow → Shared → Prop) (s : Shared) {σ : Type} (ps : σ → List (Str × Value)) (stored : List Str) (m₀ : Str → Option Value) (Led : σ → List (Addr × Obj)) (J : Nat → σ → Prop) (n : Nat) (P : Nat → Value → Prop) : Prop :=
  (∀ i v c (u : Str → Option Value) h tk own, i < n → P i v → J i c → OwnOff own ((Led c).map (·.1)) → (∀ q ∈ own, q.2.cls ≠ .type "tuple") → Fr h₀ env.locals h (fun y => if y = x then some v else kstB (fun z => if stored.contains z then u z else m₀ z) (ps c) y) → News h₀ env.locals h (Led c ++ own) →
      wpAny (model prog w) A (execs body env) (AftF h₀ env.locals ps (x :: stored) m₀ Led own (J (i + 1)) { s with heap := h, toks := tk } Q) (fun _ _ => False) { s with heap := h, toks := tk }) ∧
  (∀ c (u : Str → Option Value) h tk, J n c → Fr h₀ env.locals h (kstB (fun z => if (x :: stored).contains z then u z else m₀ z) (ps c)) → News h₀ env.locals h (Led c) → Q .next { s with heap := h, toks := tk })

theorem forSrc {σ : Type} {x : Str} {body : List Stmt} {r : Value} {d : Addr} {od oI : Obj} {n : Nat} {P : Nat → Value → Prop} {St : Nat → Heap → Prop} {m₀ : Str → Option Value} {news : List (Addr × Obj)}
    (ps : σ → List (Str × Value)) (stored : List Str) (Led : σ → List (Addr × Obj)) (J : Nat → σ → Prop) (c₀ : σ)
    (hit : ∀ (Q' : Value → Shared → Prop) (E' : Value → Shared → Prop), Q' (.ref s.heap.objs.size) { s with heap := s.heap.push oI } → wpAny (model prog w) A (pyIter r) Q' E' s)
    (hd : ∀ i c, J i c → (d, od) ∈ Led c) (hd0 : (d, od) ∈ news) (W : Walks prog w A s.heap.objs.size [s.heap.objs.size, d] [s.heap.objs.size] n P St) (hob : ∀ i h, St i h → ∃ o, h.get? s.heap.objs.size = some o ∧ o.cls ≠ .type "tuple")
    (hst : St 0 (s.heap.push oI)) (F : Fr h₀ env.locals s.heap m₀) (N : News h₀ env.locals s.heap news) (hn : ∀ p ∈ Led c₀, p ∈ news) (hk : ∀ p ∈ ps c₀, m₀ p.1 = some p.2) (hj : J 0 c₀)
    (turns : Turns prog w A env h₀ x body Q s ps stored m₀ Led J n P) :
    wpAny (model prog w) A (pyIter r) (fun it s₂ => LoopAtV prog w A h₀ env x body Q E it s₂) E s := by
  refine hit _ _ ?_
  have hlt : ∀ q ∈ news, q.1 < s.heap.objs.size := fun q hq => Heap.lt_size (N q hq).1
  refine forWalk (s := { s with heap := s.heap.push oI }) (news := news) ps stored Led J c₀ W ?_ ?_ ?_ hob hst (F.push _) (N.grown fun b o e => Heap.get?_push_of_some _ e) hn ?_ hk hj turns.1 turns.2
  · intro b hb
    rcases List.mem_cons.mp hb with h | h
    · exact .inl h
    · rw [List.mem_singleton.mp h]; exact .inr ⟨od, hd⟩
  · intro hm
    rcases List.mem_cons.mp hm with h | h
    · exact absurd F.ns.lt (h ▸ Nat.lt_irrefl _)
    · exact (N _ hd0).2.1 (List.mem_singleton.mp h).symm
  · exact Heap.get?_none_of_le (Nat.le_trans F.above (Nat.le_of_lt F.ns.lt))
  · exact fun p hp => Nat.ne_of_lt (hlt p (hn p hp))

theorem for_list {σ : Type} {x : Str} {body : List Stmt} {l : Addr} {c : Nat} {vs : List Value} {m₀ : Str → Option Value} {news : List (Addr × Obj)}
    (ps : σ → List (Str × Value)) (stored : List Str) (Led : σ → List (Addr × Obj)) (J : Nat → σ → Prop) (c₀ : σ) (hh : A.handled = none)
    (hd : ∀ i c', J i c' → (l, listOf vs.toArray c) ∈ Led c') (F : Fr h₀ env.locals s.heap m₀) (N : News h₀ env.locals s.heap news) (hn : ∀ p ∈ Led c₀, p ∈ news) (hk : ∀ p ∈ ps c₀, m₀ p.1 = some p.2) (hj : J 0 c₀)
    (turns : Turns prog w A env h₀ x body Q s ps stored m₀ Led J vs.length (fun i v => vs[i]? = some v)) :
    wpAny (model prog w) A (pyIter (.ref l)) (fun it s₂ => LoopAtV prog w A h₀ env x body Q E it s₂) E s := by
  have ho := N.get (hn _ (hd _ _ hj))
  have hL : s.heap.IsList l vs.toArray := ⟨_, ho, rfl, _, rfl⟩
  have W := Walks.list (prog := prog) (w := w) hh s.heap.objs.size l (Nat.ne_of_lt (Heap.lt_size ho)) vs.toArray
  have e : (fun (i : Nat) (v : Value) => vs.toArray[i]? = some v) = fun i v => vs[i]? = some v := by funext i v; simp
  rw [e, show vs.toArray.size = vs.length by simp] at W
  exact forSrc ps stored Led J c₀ (fun Q' E' h => wpAny_pyIter_list hL h) hd (hn _ (hd _ _ hj)) W (fun i h st => let ⟨o, ho, hc, _⟩ := st.1; ⟨o, ho, by rw [hc]; intro e; exact absurd (Value.type.inj e) (by decide)⟩) ⟨⟨_, Heap.get?_push_size _ rfl, rfl, rfl⟩, hL.at fun o e => Heap.get?_push_of_some _ e⟩ F N hn hk hj turns

theorem for_tuple {σ : Type} {x : Str} {body : List Stmt} {l : Addr} {c : Nat} {vs : List Value} {m₀ : Str → Option Value} {news : List (Addr × Obj)}
    (ps : σ → List (Str × Value)) (stored : List Str) (Led : σ → List (Addr × Obj)) (J : Nat → σ → Prop) (c₀ : σ) (hh : A.handled = none)
    (hd : ∀ i c', J i c' → (l, ({ cls := .type "tuple", data := .seq vs.toArray c } : Obj)) ∈ Led c') (F : Fr h₀ env.locals s.heap m₀) (N : News h₀ env.locals s.heap news) (hn : ∀ p ∈ Led c₀, p ∈ news) (hk : ∀ p ∈ ps c₀, m₀ p.1 = some p.2) (hj : J 0 c₀)
    (turns : Turns prog w A env h₀ x body Q s ps stored m₀ Led J vs.length (fun i v => vs[i]? = some v)) :
    wpAny (model prog w) A (pyIter (.ref l)) (fun it s₂ => LoopAtV prog w A h₀ env x body Q E it s₂) E s := by
  have ho := N.get (hn _ (hd _ _ hj))
  have hL : s.heap.IsTuple l vs.toArray := ⟨_, ho, rfl, _, rfl⟩
  have W := Walks.tuple (prog := prog) (w := w) hh s.heap.objs.size l (Nat.ne_of_lt (Heap.lt_size ho)) vs.toArray
  have e : (fun (i : Nat) (v : Value) => vs.toArray[i]? = some v) = fun i v => vs[i]? = some v := by funext i v; simp
  rw [e, show vs.toArray.size = vs.length by simp] at W
  exact forSrc ps stored Led J c₀ (fun Q' E' h => wpAny_pyIter_tuple hL h) hd (hn _ (hd _ _ hj)) W (fun i h st => let ⟨o, ho, hc, _⟩ := st.1; ⟨o, ho, by rw [hc]; intro e; exact absurd (Value.type.inj e) (by decide)⟩) ⟨⟨_, Heap.get?_push_size _ rfl, rfl, rfl⟩, hL.push _⟩ F N hn hk hj turns

theorem for_dict {σ : Type} {x : Str} {body : List Stmt} {l : Addr} {ep : Nat} {es : Array DictEntry} {m₀ : Str → Option Value} {news : List (Addr × Obj)}
    (ps : σ → List (Str × Value)) (stored : List Str) (Led : σ → List (Addr × Obj)) (J : Nat → σ → Prop) (c₀ : σ) (hh : A.handled = none) (lo : (l == sysModules) = false)
    (hd : ∀ i c', J i c' → (l, dctO es ep) ∈ Led c') (F : Fr h₀ env.locals s.heap m₀) (N : News h₀ env.locals s.heap news) (hn : ∀ p ∈ Led c₀, p ∈ news) (hk : ∀ p ∈ ps c₀, m₀ p.1 = some p.2) (hj : J 0 c₀)
    (turns : Turns prog w A env h₀ x body Q s ps stored m₀ Led J es.size (fun i v => ∃ e, es[i]? = some e ∧ v = e.key)) :
    wpAny (model prog w) A (pyIter (.ref l)) (fun it s₂ => LoopAtV prog w A h₀ env x body Q E it s₂) E s := by
  have ho := N.get (hn _ (hd _ _ hj))
  have W := walks_raw (prog := prog) (w := w) hh s.heap.objs.size l (Nat.ne_of_lt (Heap.lt_size ho)) es ep
  exact forSrc ps stored Led J c₀ (fun Q' E' h => iter_raw lo ho h) hd (hn _ (hd _ _ hj)) W (fun i h st => let ⟨o, ho, hc, _⟩ := st.1; ⟨o, ho, by rw [hc]; intro e; exact absurd (Value.type.inj e) (by decide)⟩) ⟨⟨_, Heap.get?_push_size _ rfl, rfl, rfl⟩, Heap.get?_push_of_some _ ho⟩ F N hn hk hj turns
end
end
section
theorem fresh12 : True := by w_top off; trivial
noncomputable def bitZ (x k : Int) : Int := Builtin.bitAnd (x.fdiv (2 ^ (3 - 1 - k).toNat)) 1
noncomputable def topZ (x k : Int) : Int := x.fdiv (2 ^ (3 - k).toNat) * 2 ^ (3 - k).toNat
noncomputable abbrev pfxD (x l : Int) : Dat := .tuple [.int x, .int l]

noncomputable def Ext (A B : List (Addr × Obj)) : Prop := (∀ p ∈ A, p ∈ B) ∧ ∀ p ∈ B, p ∈ A ∨ p.2.cls = .type "tuple"
theorem Ext.refl (A : List (Addr × Obj)) : Ext A A := ⟨fun _ h => h, fun _ h => .inl h⟩
theorem Ext.trans {A B C : List (Addr × Obj)} (h : Ext A B) (k : Ext B C) : Ext A C := ⟨fun p hp => k.1 p (h.1 p hp), fun p hp => (k.2 p hp).elim (h.2 p) .inr⟩
theorem Ext.add {A B : List (Addr × Obj)} {a : Addr} {o : Obj} (h : Ext A B) (ho : o.cls = .type "tuple") : Ext A ((a, o) :: B) := ⟨fun p hp => .tail _ (h.1 p hp), fun p hp => by
  rcases List.mem_cons.mp hp with rfl | hp
  · exact .inr ho
  · exact h.2 p hp⟩
theorem Ext.mem {A B : List (Addr × Obj)} {p : Addr × Obj} (h : Ext A B) (hp : p ∈ A) : p ∈ B := h.1 p hp
theorem Ext.dat {A B : List (Addr × Obj)} {v : Value} {d : Dat} (h : Ext A B) (hp : DatIn A v d) : DatIn B v d := hp.mono h.1
theorem dat_tail {A : List (Addr × Obj)} {p : Addr × Obj} {v : Value} {d : Dat} (hp : DatIn A v d) : DatIn (p :: A) v d := hp.mono fun _ h => .tail _ h

noncomputable abbrev tupO (vs : List Value) (n : Nat) : Obj := { cls := .type "tuple", data := .seq vs.toArray n }

theorem pfx_inv {news : List (Addr × Obj)} {v : Value} {x l : Int} (h : DatIn news v (pfxD x l)) : ∃ a n t1 t2, v = .ref a ∧ (a, tupO [.int x t1, .int l t2] n) ∈ news := pd_inv (p := (x, l)) h

theorem bitZ_01 {x k : Int} (hx : 0 ≤ x) (hx2 : x < 8) (h0 : 0 ≤ k) (h1 : k < 3) : bitZ x k = 0 ∨ bitZ x k = 1 := by
  have e : ∀ x : Fin 8, ∀ k : Fin 3, bitZ (x.val : Int) (k.val : Int) = 0 ∨ bitZ (x.val : Int) (k.val : Int) = 1 := by decide +kernel
  have := e ⟨x.toNat, by omega⟩ ⟨k.toNat, by omega⟩
  simp only [Int.toNat_of_nonneg hx, Int.toNat_of_nonneg h0] at this
  exact this
theorem bit_con (w : World) (x k : Int) (t1 t2 t3 : Tok) (news : List (Addr × Obj)) (hx : 0 ≤ x) (hx2 : x < 8) (h0 : 0 ≤ k) (h1 : k < 3) :
    Con w 55 [.int x t1, .int k t2, .int 3 t3] 2 20 news fun r news' => news' = news ∧ (bitZ x k = 0 ∨ bitZ x k = 1) ∧ ∃ t, r = .int (bitZ x k) t := by
  unfold Con
  k_fill
  intro p loose mean mg mb dp un gd cn cs a ccd cl outer A₀ base h₀ L m s R B F X N T hk hd hu hret
  k_dflt ktr_enter
  k_steps
  all_goals exact hret _ _ _ _ (by assumption) (by assumption) ⟨rfl, bitZ_01 hx hx2 h0 h1, _, rfl⟩
theorem first_con (w : World) (x k : Int) (t1 t2 t3 : Tok) (news : List (Addr × Obj)) (hx : 0 ≤ x) (hx2 : x < 8) (h0 : 0 ≤ k) (h1 : k ≤ 3) :
    Con w 48 [.int x t1, .int k t2, .int 3 t3] 2 20 news fun r news' => news' = news ∧ ∃ t, r = .int (topZ x k) t := by
  unfold Con
  k_fill
  intro p loose mean mg mb dp un gd cn cs a ccd cl outer A₀ base h₀ L m s R B F X N T hk hd hu hret
  k_dflt ktr_enter
  k_steps
  all_goals exact hret _ _ _ _ (by assumption) (by assumption) ⟨rfl, _, rfl⟩
end
section
local macro_rules | `(tactic| walk_at "no own") => `(tactic| first | exact fun _ h => h | exact fun _ h => nomatch h)
local macro_rules | `(tactic| walk_at "names hold") => `(tactic| (intro q hq; (repeat ((rcases List.mem_cons.mp hq with hq | hq); focus (rw [hq]; rfl))); exact nomatch hq))
local macro_rules | `(tactic| walk_at "names stay") => `(tactic| (intro z hz hs; simp only [List.mem_cons, List.not_mem_nil, or_false, forall_eq_or_imp, forall_eq, List.contains_cons, List.contains_nil, Bool.or_eq_false_iff, beq_eq_false_iff_ne, ne_eq, and_true, forall_const, implies_true] at hz hs; simp [kstB, hz, hs]))
local macro_rules | `(tactic| walk_at "execs cons") => `(tactic| (k_here; walk_at "own fold"))
local macro_rules | `(tactic| walk_at "dats") => `(tactic| first | exact DatAll.nil | (refine' DatAll.cons (by walk_at "dat") (by walk_at "dats")))
local macro_rules | `(tactic| walk_at "ext") => `(tactic| first | exact Ext.refl _ | assumption | (refine Ext.add ?_ rfl; walk_at "ext") | (refine Ext.trans ?_ (by assumption); walk_at "ext"))
local macro_rules | `(tactic| k_mem) => `(tactic| first | assumption | exact List.Mem.head _ | (refine' List.mem_append_right _ ?_; assumption) | (refine' List.mem_append_left _ ?_; k_mem) | (refine' List.Mem.tail _ ?_; k_mem) | (refine' List.mem_append_right _ ?_; k_mem) | (refine Ext.mem (by assumption) ?_; k_mem))
set_option hygiene false in
local macro_rules | `(tactic| walk_at "own fold") => `(tactic| ((fail_if_success (fail_if_success k_fold)); refine foldT ?_; intro qk ek))
section
theorem fresh13 : True := by w_top off; trivial

local macro_rules | `(tactic| walk_at "own call") => `(tactic| (k_dflt (refine' con_call (C := by first | assumption | walk_at "con") (h := ?_))))
local macro_rules | `(tactic| walk_at "back p") => `(tactic| (intro r9 news9 h9 tk9 F9 N9 P9; obtain ⟨e9, b9, t9, e9'⟩ := P9; rw [e9] at N9; subst e9'; clear e9; (try dsimp only); (try walk_at "own fold")))
local macro_rules | `(tactic| walk_at "con") => `(tactic| exact bit_con _ _ _ _ _ _ _ (by omega) (by omega) (by omega) (by omega))
local macro_rules | `(tactic| walk_at "call ref") => `(tactic| (k_here; (with_reducible show wpAny _ _ (PySem.call (Value.ref 55) _) _ _ _); walk_at "own call"; walk_at "back p"))
local macro_rules | `(tactic| walk_at "exec While") => `(tactic| (k_here; refine halt ?_))
local macro_rules | `(tactic| walk_at "isTrue BoolOp") => `(tactic| (k_here; walk_at "own fold"))
local macro_rules | `(tactic| walk_at "eval Call") => `(tactic| (k_here; walk_at "own fold"))
local macro_rules | `(tactic| walk_at "isTrue Compare") => `(tactic| (k_here; walk_at "own fold"))
local macro_rules | `(tactic| walk_at "eval Tuple") => `(tactic| (k_here; walk_at "own fold"))
local macro_rules | `(tactic| walk_at "eval BinOp") => `(tactic| (k_here; walk_at "own fold"))
local macro_rules | `(tactic| walk_at "exec Assign") => `(tactic| (k_here; walk_at "own fold"))
local macro_rules | `(tactic| walk_at "eval Subscript") => `(tactic| (k_here; walk_at "own fold"))

noncomputable def sharedGo (x y most : Int) : Nat → Int → Int
  | 0, k => k
  | f + 1, k => if k < most ∧ bitZ x k = bitZ y k then sharedGo x y most f (k + 1) else k
noncomputable def sharedZ (x l y k : Int) : Int := sharedGo x y (if k < l then k else l) 3 0
theorem sharedGo_stop {x y most k : Int} (h : ¬ (k < most ∧ bitZ x k = bitZ y k)) : ∀ f, sharedGo x y most f k = k
  | 0 => rfl
  | f + 1 => by rw [sharedGo, if_neg h]
theorem sharedGo_go {x y most k : Int} (h1 : k < most) (h2 : bitZ x k = bitZ y k) (hm : most ≤ 3) : sharedGo x y most (3 - k).toNat k = sharedGo x y most (3 - (k + 1)).toNat (k + 1) := by
  obtain ⟨f, hf⟩ := Int.eq_ofNat_of_zero_le (show 0 ≤ 3 - (k + 1) by omega)
  have e : 3 - k = ((f + 1 : Nat) : Int) := by rw [Int.natCast_succ, ← hf]; omega
  rw [hf, e, Int.toNat_natCast, Int.toNat_natCast, sharedGo, if_pos ⟨h1, h2⟩]

theorem sharedGo_bd {x y most : Int} : ∀ (f : Nat) (k : Int), k ≤ most → k ≤ sharedGo x y most f k ∧ sharedGo x y most f k ≤ most
  | 0, k, h => ⟨Int.le_refl _, h⟩
  | f + 1, k, h => by
    rw [sharedGo]
    split
    · rename_i hc
      have := sharedGo_bd (x := x) (y := y) (most := most) f (k + 1) (by omega)
      omega
    · exact ⟨Int.le_refl _, h⟩
theorem sharedZ_bd {x l y k : Int} (h1 : 0 ≤ l) (h2 : 0 ≤ k) : 0 ≤ sharedZ x l y k ∧ sharedZ x l y k ≤ l ∧ sharedZ x l y k ≤ k := by
  unfold sharedZ
  by_cases hkl : k < l
  · rw [if_pos hkl]
    have := sharedGo_bd (x := x) (y := y) (most := k) 3 0 h2
    omega
  · rw [if_neg hkl]
    have := sharedGo_bd (x := x) (y := y) (most := l) 3 0 h1
    omega

theorem shared_con (w : World) (v1 v2 : Value) (x l y k : Int) (t3 : Tok) (news : List (Addr × Obj)) (hx : 0 ≤ x) (hx2 : x < 8) (hl0 : 0 ≤ l) (hl1 : l ≤ 3) (hy : 0 ≤ y) (hy2 : y < 8) (hk0 : 0 ≤ k) (hk1 : k ≤ 3)
    (h1 : DatIn news v1 (pfxD x l)) (h2 : DatIn news v2 (pfxD y k)) :
    Con w 62 [v1, v2, .int 3 t3] 4 40 news fun r news' => news' = news ∧ (0 ≤ sharedZ x l y k ∧ sharedZ x l y k ≤ l ∧ sharedZ x l y k ≤ k) ∧ ∃ t, r = .int (sharedZ x l y k) t := by
  unfold Con
  k_fill
  intro p loose mean mg mb dp un gd cn cs a ccd cl outer A₀ base h₀ L m s R B F X N T hk hd hu hret
  obtain ⟨a1, n1, u1, u2, rfl, m1⟩ := pfx_inv h1
  obtain ⟨a2, n2, u3, u4, rfl, m2⟩ := pfx_inv h2
  k_dflt ktr_enter
  k_steps
  unfold Halt
  rename_i tk0 F0 N0
  have hm3 : (if k < l then k else l) ≤ 3 := by split <;> assumption
  refine whileInv (σ := Int × Tok) (fun c => [(Str.ofString "many", Value.int c.1 c.2)]) [] (fun _ => news) (fun c => 0 ≤ c.1 ∧ c.1 ≤ (if k < l then k else l) ∧ sharedGo x y (if k < l then k else l) (3 - c.1).toNat c.1 = sharedZ x l y k) (fun c => (3 - c.1).toNat) (0, ?t9) F0 N0 ?_ ?_ ?_ ?_
  rotate_left
  · exact fun _ h => List.mem_cons_of_mem _ h
  · walk_at "names hold"
  · refine ⟨by omega, by split <;> omega, rfl⟩
  · rintro ⟨c, tc⟩ u h tk ⟨hc0, hc1, hc2⟩ F1 N1
    dsimp only at hc0 hc1 hc2 F1 ⊢
    k_steps
    · refine Aft.intro (c + 1, ?t8) (by assumption) (by assumption) (by walk_at "no own") (by walk_at "no own") (by walk_at "no own") ?_ ?_ ?_
      rotate_left
      · walk_at "names hold"
      · walk_at "names stay"
      · refine ⟨⟨by dsimp only; omega, by dsimp only; omega, ?_⟩, by dsimp only; exact (Int.toNat_lt_toNat (by omega)).mpr (by omega)⟩
        rw [← hc2]
        exact (sharedGo_go (by assumption) (by assumption) hm3).symm
    · refine hret _ _ _ _ (by assumption) (by assumption) ⟨rfl, sharedZ_bd hl0 hk0, tc, ?_⟩
      rw [← hc2, sharedGo_stop (by rintro ⟨_, _⟩; contradiction)]
    · refine hret _ _ _ _ (by assumption) (by assumption) ⟨rfl, sharedZ_bd hl0 hk0, tc, ?_⟩
      rw [← hc2, sharedGo_stop (by rintro ⟨_, _⟩; contradiction)]
end
section
local macro_rules | `(tactic| walk_at "own call") => `(tactic| (k_dflt (refine' con_call (C := by first | assumption | walk_at "con") (h := ?_))))
local macro_rules | `(tactic| walk_at "back v") => `(tactic| (intro r9 news9 h9 tk9 F9 N9 P9; obtain ⟨e9, t9, e9'⟩ := P9; rw [e9] at N9; subst e9'; clear e9; (try dsimp only); (try walk_at "own fold")))
local macro_rules | `(tactic| walk_at "back b") => `(tactic| (intro r9 news9 h9 tk9 F9 N9 P9; obtain ⟨e9, b9, t9, e9'⟩ := P9; rw [e9] at N9; subst e9'; clear e9; first | (rcases b9 with b9 | b9 <;> (rw [b9]; (try dsimp only); (try walk_at "own fold"))) | ((try dsimp only); (try walk_at "own fold"))))
local macro_rules | `(tactic| walk_at "con") => `(tactic| exact first_con _ _ _ _ _ _ _ (by omega) (by omega) (by omega) (by omega))
local macro_rules | `(tactic| walk_at "con") => `(tactic| exact bit_con _ _ _ _ _ _ _ (by omega) (by omega) (by omega) (by omega))
local macro_rules | `(tactic| walk_at "dat") => `(tactic| first | assumption | exact DatIn.none | exact DatIn.int _ _ | exact DatIn.str _ _ | (refine' Ext.dat (by assumption) (by walk_at "dat")) | (refine' dat_tail (by walk_at "dat")) | (refine' DatIn.mono ?dh ?di; (case di => assumption); (case dh => walk_at "sub")) | (refine' DatIn.tuple (by k_mem) (by walk_at "dats")))
local macro_rules | `(tactic| walk_at "back w") => `(tactic| (intro r9 news9 h9 tk9 F9 N9 P9; obtain ⟨e9, d9⟩ := P9; (try simp at d9); (try dsimp only); (try walk_at "own fold")))
local macro_rules | `(tactic| walk_at "back d") => `(tactic| (intro r9 news9 h9 tk9 F9 N9 P9; obtain ⟨e9, d9⟩ := P9; (try dsimp only); (try walk_at "own fold")))
section
theorem fresh14 : True := by w_top off; trivial
local macro_rules | `(tactic| walk_at "call ref") => `(tactic| (k_here; (with_reducible show wpAny _ _ (PySem.call (Value.ref 48) _) _ _ _); walk_at "own call"; walk_at "back v"))
local macro_rules | `(tactic| walk_at "call ref") => `(tactic| (k_here; (with_reducible show wpAny _ _ (PySem.call (Value.ref 55) _) _ _ _); walk_at "own call"; walk_at "back b"))


inductive Tree where
  | nil
  | node (x l : Int) (w : Dat) (a b : Tree)
noncomputable def Tree.dat : Tree → Dat
  | .nil => .none
  | .node x l w a b => .tuple [pfxD x l, w, a.dat, b.dat]
noncomputable def Tree.depth : Tree → Nat
  | .nil => 0
  | .node _ _ _ a b => a.depth + b.depth + 1
noncomputable def Tree.ok : Tree → Prop
  | .nil => True
  | .node x l _ a b => 0 ≤ x ∧ x < 8 ∧ 0 ≤ l ∧ l ≤ 3 ∧ a.ok ∧ b.ok

noncomputable def Tree.set (x l : Int) (w : Dat) (a b : Tree) (k : Int) (c : Tree) : Tree := if k = 0 then .node x l w c b else .node x l w a c
noncomputable def treePut (x l : Int) (w : Dat) : Tree → Tree
  | .nil => .node x l w .nil .nil
  | .node x1 l1 w1 a b =>
    if sharedZ x1 l1 x l = l1 ∧ sharedZ x1 l1 x l = l then .node x1 l1 w a b
    else if sharedZ x1 l1 x l = l1 then (if bitZ x (sharedZ x1 l1 x l) = 0 then .node x1 l1 w1 (treePut x l w a) b else .node x1 l1 w1 a (treePut x l w b))
    else if sharedZ x1 l1 x l = l then (if bitZ x1 (sharedZ x1 l1 x l) = 0 then .node x l w (.node x1 l1 w1 a b) .nil else .node x l w .nil (.node x1 l1 w1 a b))
    else if bitZ x1 (sharedZ x1 l1 x l) = 0 then (if bitZ x (sharedZ x1 l1 x l) = 0 then .node (topZ x1 (sharedZ x1 l1 x l)) (sharedZ x1 l1 x l) .none (.node x l w .nil .nil) .nil
        else .node (topZ x1 (sharedZ x1 l1 x l)) (sharedZ x1 l1 x l) .none (.node x1 l1 w1 a b) (.node x l w .nil .nil))
      else (if bitZ x (sharedZ x1 l1 x l) = 0 then .node (topZ x1 (sharedZ x1 l1 x l)) (sharedZ x1 l1 x l) .none (.node x l w .nil .nil) (.node x1 l1 w1 a b)
        else .node (topZ x1 (sharedZ x1 l1 x l)) (sharedZ x1 l1 x l) .none .nil (.node x l w .nil .nil))

theorem node_inv {news : List (Addr × Obj)} {v : Value} {d1 d2 d3 d4 : Dat} (h : DatIn news v (.tuple [d1, d2, d3, d4])) :
    ∃ a n v1 v2 v3 v4, v = .ref a ∧ (a, tupO [v1, v2, v3, v4] n) ∈ news ∧ DatIn news v1 d1 ∧ DatIn news v2 d2 ∧ DatIn news v3 d3 ∧ DatIn news v4 d4 := by
  obtain ⟨_, _, _, e, m, h⟩ := dat_tuple_inv h
  obtain ⟨_, _, rfl, i, h⟩ := dats_inv h
  obtain ⟨_, _, rfl, j, h⟩ := dats_inv h
  obtain ⟨_, _, rfl, k, l⟩ := dats_two h
  exact ⟨_, _, _, _, _, _, e, m, i, j, k, l⟩

theorem wc_con (w : World) (d1 d2 d3 d4 dc : Dat) (k : Int) (tk : Tok) (news : List (Addr × Obj)) (v vc : Value) (hv : DatIn news v (.tuple [d1, d2, d3, d4])) (hc : DatIn news vc dc) :
    Con w 69 [v, .int k tk, vc] 3 20 news fun r news' => Ext news news' ∧ DatIn news' r (.tuple (if k = 0 then [d1, d2, dc, d4] else [d1, d2, d3, dc])) := by
  refine cps fun Pz kz => ?_
  obtain ⟨av, nv, v1, v2, v3, v4, rfl, mv, i1, i2, i3, i4⟩ := node_inv hv
  refine kz ?_
  clear kz Pz
  unfold Con
  k_fill
  intro p loose mean mg mb dp un gd cn cs a ccd cl outer A₀ base h₀ L m s R B F X N T hk hd hu hret
  k_dflt ktr_enter
  k_steps
  · rename_i hk0 _ _ _ _ _ _ _ _ _
    refine hret _ _ _ _ (by assumption) (by assumption) ⟨by walk_at "ext", ?_⟩
    rw [if_pos (by assumption)]
    exact .tuple (by k_mem) (.cons (by walk_at "dat") (.cons (by walk_at "dat") (.cons (by walk_at "dat") (.cons (by walk_at "dat") .nil))))
  · refine hret _ _ _ _ (by assumption) (by assumption) ⟨by walk_at "ext", ?_⟩
    rw [if_neg (by assumption)]
    exact .tuple (by k_mem) (.cons (by walk_at "dat") (.cons (by walk_at "dat") (.cons (by walk_at "dat") (.cons (by walk_at "dat") .nil))))
local macro_rules | `(tactic| walk_at "con") => `(tactic| exact wc_con _ _ _ _ _ _ _ _ _ _ _ (by walk_at "dat") (by walk_at "dat"))
local macro_rules | `(tactic| walk_at "call ref") => `(tactic| (k_here; (with_reducible show wpAny _ _ (PySem.call (Value.ref 69) _) _ _ _); walk_at "own call"; walk_at "back w"))
local macro_rules | `(tactic| walk_at "isTrue BoolOp") => `(tactic| (k_here; walk_at "own fold"))
local macro_rules | `(tactic| walk_at "eval Call") => `(tactic| (k_here; walk_at "own fold"))
local macro_rules | `(tactic| walk_at "isTrue Compare") => `(tactic| (k_here; walk_at "own fold"))
local macro_rules | `(tactic| walk_at "eval Tuple") => `(tactic| (k_here; walk_at "own fold"))
local macro_rules | `(tactic| walk_at "eval BinOp") => `(tactic| (k_here; walk_at "own fold"))
local macro_rules | `(tactic| walk_at "exec Assign") => `(tactic| (k_here; walk_at "own fold"))
local macro_rules | `(tactic| walk_at "eval Subscript") => `(tactic| (k_here; walk_at "own fold"))

theorem fork_con (w : World) (x1 l1 x l : Int) (w1 wd c1 c2 c3 c4 : Dat) (k : Int) (tk t3 : Tok) (news : List (Addr × Obj)) (v1 v2 : Value) (hx : 0 ≤ x) (hx2 : x < 8) (hy : 0 ≤ x1) (hy2 : x1 < 8) (hk0 : 0 ≤ k) (hk1 : k < 3)
    (h1 : DatIn news v1 (.tuple [pfxD x1 l1, w1, c1, c2])) (h2 : DatIn news v2 (.tuple [pfxD x l, wd, c3, c4])) :
    Con w 76 [v1, v2, .int k tk, .int 3 t3] 5 40 news fun r news' => Ext news news' ∧ DatIn news' r (.tuple (
      if bitZ x1 k = 0 then (if bitZ x k = 0 then [pfxD (topZ x1 k) k, .none, .tuple [pfxD x l, wd, c3, c4], .none] else [pfxD (topZ x1 k) k, .none, .tuple [pfxD x1 l1, w1, c1, c2], .tuple [pfxD x l, wd, c3, c4]])
      else (if bitZ x k = 0 then [pfxD (topZ x1 k) k, .none, .tuple [pfxD x l, wd, c3, c4], .tuple [pfxD x1 l1, w1, c1, c2]] else [pfxD (topZ x1 k) k, .none, .none, .tuple [pfxD x l, wd, c3, c4]]))) := by
  refine cps fun Pz kz => ?_
  obtain ⟨av, nv, v11, v12, v13, v14, rfl, mv, i1, i2, i3, i4⟩ := node_inv h1
  obtain ⟨a1, n1, u1, u2, rfl, m1⟩ := pfx_inv i1
  obtain ⟨bv, nb, v21, v22, v23, v24, rfl, mb', j1, j2, j3, j4⟩ := node_inv h2
  obtain ⟨a2, n2, u3, u4, rfl, m2⟩ := pfx_inv j1
  refine kz ?_
  clear kz Pz
  unfold Con
  k_fill
  intro p loose mean mg mb dp un gd cn cs a ccd cl outer A₀ base h₀ L m s R B F X N T hk hd hu hret
  k_dflt ktr_enter
  k_steps
  all_goals (
    refine hret _ _ _ _ (by assumption) (by assumption) ⟨by walk_at "ext", ?_⟩
    (repeat (first | rw [show bitZ x1 k = 0 by assumption] | rw [show bitZ x1 k = 1 by assumption] | rw [show bitZ x k = 0 by assumption] | rw [show bitZ x k = 1 by assumption]))
    simp
    assumption)
end
section
theorem fresh15 : True := by w_top off; trivial
local macro_rules | `(tactic| walk_at "back p") => `(tactic| (intro r9 news9 h9 tk9 F9 N9 P9; obtain ⟨e9, b9, t9, e9'⟩ := P9; rw [e9] at N9; subst e9'; clear e9; (try dsimp only); (try walk_at "own fold")))
local macro_rules | `(tactic| walk_at "call ref") => `(tactic| (k_here; (with_reducible show wpAny _ _ (PySem.call (Value.ref 55) _) _ _ _); walk_at "own call"; walk_at "back b"))
local macro_rules | `(tactic| walk_at "con") => `(tactic| (refine' shared_con _ _ _ _ _ _ _ _ _ ?_ ?_ ?_ ?_ ?_ ?_ ?_ ?_ (by walk_at "dat") (by walk_at "dat") <;> omega))
local macro_rules | `(tactic| walk_at "call ref") => `(tactic| (k_here; (with_reducible show wpAny _ _ (PySem.call (Value.ref 62) _) _ _ _); walk_at "own call"; walk_at "back p"))
local macro_rules | `(tactic| walk_at "con") => `(tactic| exact wc_con _ _ _ _ _ _ _ _ _ _ _ (by walk_at "dat") (by walk_at "dat"))
local macro_rules | `(tactic| walk_at "call ref") => `(tactic| (k_here; (with_reducible show wpAny _ _ (PySem.call (Value.ref 69) _) _ _ _); walk_at "own call"; walk_at "back w"))
local macro_rules | `(tactic| walk_at "con") => `(tactic| (refine' fork_con _ _ _ _ _ _ _ _ _ _ _ _ _ _ _ _ _ ?_ ?_ ?_ ?_ ?_ ?_ (by walk_at "dat") (by walk_at "dat") <;> omega))
local macro_rules | `(tactic| walk_at "call ref") => `(tactic| (k_here; (with_reducible show wpAny _ _ (PySem.call (Value.ref 76) _) _ _ _); walk_at "own call"; walk_at "back d"))
local macro_rules | `(tactic| walk_at "con") => `(tactic| k_extra "P83")
local macro_rules | `(tactic| walk_at "room") => `(tactic| (simp only [Tree.depth] at *; ktr_room))
local macro_rules | `(tactic| walk_at "units") => `(tactic| (simp only [Tree.depth] at *; ktr_units))
local macro_rules | `(tactic| walk_at "call ref") => `(tactic| (k_here; (with_reducible show wpAny _ _ (PySem.call (Value.ref 83) _) _ _ _); walk_at "own call"; walk_at "back d"))



local macro_rules | `(tactic| walk_at "isTrue BoolOp") => `(tactic| (k_here; walk_at "own fold"))
local macro_rules | `(tactic| walk_at "eval Call") => `(tactic| (k_here; walk_at "own fold"))
local macro_rules | `(tactic| walk_at "isTrue Compare") => `(tactic| (k_here; walk_at "own fold"))
local macro_rules | `(tactic| walk_at "eval Tuple") => `(tactic| (k_here; walk_at "own fold"))
local macro_rules | `(tactic| walk_at "eval BinOp") => `(tactic| (k_here; walk_at "own fold"))
local macro_rules | `(tactic| walk_at "exec Assign") => `(tactic| (k_here; walk_at "own fold"))
local macro_rules | `(tactic| walk_at "eval Subscript") => `(tactic| (k_here; walk_at "own fold"))

theorem put_con (w : World) (x l : Int) (wd : Dat) (hx : 0 ≤ x) (hx2 : x < 8) (hl0 : 0 ≤ l) (hl1 : l ≤ 3) : ∀ (t : Tree) (news : List (Addr × Obj)) (v vp vw : Value) (t3 : Tok), t.ok → DatIn news v t.dat → DatIn news vp (pfxD x l) → DatIn news vw wd →
    Con w 83 [v, vp, vw, .int 3 t3] (t.depth + 8) (8 * t.depth + 60) news fun r news' => Ext news news' ∧ DatIn news' r (treePut x l wd t).dat := by
  intro t
  induction t with
  | nil =>
    intro news v vp vw t3 hok hv hp hw
    cases hv
    unfold Con
    k_fill
    intro p loose mean mg mb dp un gd cn cs a ccd cl outer A₀ base h₀ L m s R B F X N T hk hd hu hret
    k_dflt ktr_enter
    k_steps
    refine hret _ _ _ _ (by assumption) (by assumption) ⟨by walk_at "ext", ?_⟩
    exact .tuple (by k_mem) (.cons (by walk_at "dat") (.cons (by walk_at "dat") (.cons .none (.cons .none .nil))))
  | node x1 l1 w1 ta tb iha ihb =>
    intro news v vp vw t3 hok hv hp hw
    refine cps fun Pz kz => ?_
    obtain ⟨hx10, hx11, hl10, hl11, hoka, hokb⟩ := hok
    obtain ⟨av, nv, v1, v2, v3, v4, rfl, mv, d1, d2, d3, d4⟩ := node_inv hv
    obtain ⟨a1, n1, u1, u2, rfl, m1⟩ := pfx_inv d1
    obtain ⟨a2, n2, u3, u4, rfl, m2⟩ := pfx_inv hp
    refine kz ?_
    clear kz Pz
    have hv' : DatIn news (.ref av) (.tuple [pfxD x1 l1, w1, ta.dat, tb.dat]) := hv
    clear hv
    unfold Con
    k_fill
    intro p loose mean mg mb dp un gd cn cs a ccd cl outer A₀ base h₀ L m s R B F X N T hk hd hu hret
    k_with_none
    k_with "P83" => (first | (refine' iha _ _ _ _ _ hoka ?_ ?_ ?_ <;> walk_at "dat") | (refine' ihb _ _ _ _ _ hokb ?_ ?_ ?_ <;> walk_at "dat"))
    k_dflt ktr_enter
    k_steps
    all_goals (try (exfalso; omega))
    all_goals refine hret _ _ _ _ (by assumption) (by assumption) ⟨by walk_at "ext", ?_⟩
    all_goals rw [treePut]
    all_goals (repeat (first | rw [if_pos (by omega)] | rw [if_neg (by omega)]))
    all_goals first
      | exact DatIn.tuple (by k_mem) (.cons (by walk_at "dat") (.cons (by walk_at "dat") (.cons (by walk_at "dat") (.cons (by walk_at "dat") .nil))))
      | (with_reducible rename DatIn _ _ _ => d9; simpa only [Tree.dat] using d9)
      | skip
    with_reducible rename DatIn _ _ (Dat.tuple (ite _ _ _)) => d9
    by_cases h4 : bitZ x1 (sharedZ x1 l1 x l) = 0 <;> by_cases h5 : bitZ x (sharedZ x1 l1 x l) = 0 <;> simp only [h4, h5, if_true, if_false] at d9 ⊢ <;> exact d9
end
section
theorem fresh16 : True := by w_top off; trivial
local macro_rules | `(tactic| walk_at "call ref") => `(tactic| (k_here; (with_reducible show wpAny _ _ (PySem.call (Value.ref 48) _) _ _ _); walk_at "own call"; walk_at "back v"))
local macro_rules | `(tactic| walk_at "call ref") => `(tactic| (k_here; (with_reducible show wpAny _ _ (PySem.call (Value.ref 55) _) _ _ _); walk_at "own call"; walk_at "back b"))



local macro_rules | `(tactic| walk_at "exec While") => `(tactic| (k_here; refine halt ?_))
local macro_rules | `(tactic| walk_at "isTrue BoolOp") => `(tactic| (k_here; walk_at "own fold"))
local macro_rules | `(tactic| walk_at "eval Call") => `(tactic| (k_here; walk_at "own fold"))
local macro_rules | `(tactic| walk_at "isTrue Compare") => `(tactic| (k_here; walk_at "own fold"))
local macro_rules | `(tactic| walk_at "eval Tuple") => `(tactic| (k_here; walk_at "own fold"))
local macro_rules | `(tactic| walk_at "eval BinOp") => `(tactic| (k_here; walk_at "own fold"))
local macro_rules | `(tactic| walk_at "exec Assign") => `(tactic| (k_here; walk_at "own fold"))
local macro_rules | `(tactic| walk_at "eval Subscript") => `(tactic| (k_here; walk_at "own fold"))

/-- what tree_look finds: the last row with a worth on the way down -/
noncomputable def better (f : Dat) (x l : Int) : Dat → Dat
  | .none => f
  | w => .tuple [pfxD x l, w]
noncomputable def lookGo (x : Int) : Dat → Tree → Dat
  | f, .nil => f
  | f, .node x1 l1 w a b =>
    if topZ x l1 = x1 then
      (if l1 = 3 then better f x1 l1 w
       else if bitZ x l1 = 0 then lookGo x (better f x1 l1 w) a
       else lookGo x (better f x1 l1 w) b)
    else f
noncomputable def Tree.size : Tree → Nat
  | .nil => 0
  | .node _ _ _ a b => a.size + b.size + 1
noncomputable def Tree.okW : Tree → Prop
  | .nil => True
  | .node _ _ w a b => (w = .none ∨ ∃ ds, w = .tuple ds) ∧ a.okW ∧ b.okW

theorem lookGo_stop {x x1 l1 : Int} {f w : Dat} {a b : Tree} (h : topZ x l1 ≠ x1) : lookGo x f (.node x1 l1 w a b) = f := by rw [lookGo, if_neg h]
theorem lookGo_end {x x1 l1 : Int} {f w : Dat} {a b : Tree} (h : topZ x l1 = x1) (h2 : l1 = 3) : lookGo x f (.node x1 l1 w a b) = better f x1 l1 w := by rw [lookGo, if_pos h, if_pos h2]
theorem lookGo_a {x x1 l1 : Int} {f w : Dat} {a b : Tree} (h : topZ x l1 = x1) (h2 : l1 ≠ 3) (h3 : bitZ x l1 = 0) : lookGo x f (.node x1 l1 w a b) = lookGo x (better f x1 l1 w) a := by rw [lookGo, if_pos h, if_neg h2, if_pos h3]
theorem lookGo_b {x x1 l1 : Int} {f w : Dat} {a b : Tree} (h : topZ x l1 = x1) (h2 : l1 ≠ 3) (h3 : bitZ x l1 = 1) : lookGo x f (.node x1 l1 w a b) = lookGo x (better f x1 l1 w) b := by rw [lookGo, if_pos h, if_neg h2, if_neg (by omega)]

structure LookSt where
  f : Dat
  t : Tree
  vf : Value
  vn : Value
  led : List (Addr × Obj)

local macro_rules | `(tactic| walk_at "exec If") => `(tactic| (k_here; (with_reducible rename HaltIf => hI9); (with_reducible show wpAny _ _ (PySem.exec (.If (.Compare _ _ _ _) _ _ _) _) _ _ _); refine halt ?_))
theorem look_con (w : World) (x : Int) (hx : 0 ≤ x) (hx2 : x < 8) (t : Tree) (news : List (Addr × Obj)) (v : Value) (tx t3 : Tok) (hok : t.ok) (hokW : t.okW) (hv : DatIn news v t.dat) :
    Con w 90 [v, .int x tx, .int 3 t3] 4 40 news fun r news' => Ext news news' ∧ DatIn news' r (lookGo x .none t) := by
    unfold Con
    k_fill
    intro p loose mean mg mb dp un gd cn cs a ccd cl outer A₀ base h₀ L m s R B F X N T hk hd hu hret
    k_dflt ktr_enter
    k_steps
    unfold Halt
    refine whileInv (fun c : LookSt => [(Str.ofString "found", c.vf), (Str.ofString "node", c.vn)]) [] (fun c => c.led) (fun c => Ext news c.led ∧ DatIn c.led c.vf c.f ∧ DatIn c.led c.vn c.t.dat ∧ c.t.ok ∧ c.t.okW ∧ lookGo x c.f c.t = lookGo x .none t) (fun c => c.t.size) ⟨.none, t, .none, v, news⟩ (by assumption) (by assumption) ?_ ?_ ?_ ?_
    · exact fun _ h => List.mem_cons_of_mem _ h
    · walk_at "names hold"
    · exact ⟨Ext.refl _, .none, hv, hok, hokW, rfl⟩
    · rintro J9_0 u h tk J9_4 F1 N1
      refine cps fun Pz kz => ?_
      obtain ⟨f, tn, vf, vn, led⟩ := J9_0
      obtain ⟨hext, hf, hn, ho, how, hl⟩ := J9_4
      refine kz ?_
      clear kz Pz
      dsimp only at hext hf hn ho how hl F1 N1 ⊢
      clear N F hv
      cases tn with
      | nil =>
        cases hn
        k_steps
        refine hret _ _ _ _ (by assumption) (by assumption) ⟨hext, ?_⟩
        rw [← hl]; exact hf
      | node x1 l1 w1 ta tb =>
        refine cps fun Pz kz => ?_
        obtain ⟨hx10, hx11, hl10, hl11, hoka, hokb⟩ := ho
        obtain ⟨hw1, hwa, hwb⟩ := how
        obtain ⟨av, nv, v1, v2, v3, v4, rfl, mv, d1, d2, d3, d4⟩ := node_inv hn
        obtain ⟨a1, n1, u1, u2, rfl, m1⟩ := pfx_inv d1
        refine kz ?_
        clear kz Pz
        have hI : HaltIf := trivial
        k_steps
        · unfold Halt
          with_reducible rename HaltIf => hI
          clear hI
          rcases hw1 with rfl | ⟨ds, rfl⟩
          · cases d2
            k_steps
            · refine Aft.intro ⟨f, .nil, vf, .none, led⟩ (by assumption) (by assumption) (by walk_at "no own") (by walk_at "no own") (by walk_at "no own") ?_ ?_ ?_
              · walk_at "names hold"
              · walk_at "names stay"
              · exact ⟨⟨by walk_at "ext", hf, .none, trivial, trivial, (lookGo_end (by assumption) (by assumption)).symm.trans hl⟩, by simp only [Tree.size]; omega⟩
            · refine Aft.intro ⟨f, ta, vf, v3, led⟩ (by assumption) (by assumption) (by walk_at "no own") (by walk_at "no own") (by walk_at "no own") ?_ ?_ ?_
              · walk_at "names hold"
              · walk_at "names stay"
              · exact ⟨⟨by walk_at "ext", hf, d3, hoka, hwa, (lookGo_a (by assumption) (by assumption) (by assumption)).symm.trans hl⟩, by simp only [Tree.size]; omega⟩
            · refine Aft.intro ⟨f, tb, vf, v4, led⟩ (by assumption) (by assumption) (by walk_at "no own") (by walk_at "no own") (by walk_at "no own") ?_ ?_ ?_
              · walk_at "names hold"
              · walk_at "names stay"
              · exact ⟨⟨by walk_at "ext", hf, d4, hokb, hwb, (lookGo_b (by assumption) (by assumption) (by assumption)).symm.trans hl⟩, by simp only [Tree.size]; omega⟩
          · obtain ⟨aw, rfl⟩ : ∃ aw, v2 = .ref aw := by cases d2; exact ⟨_, rfl⟩
            k_steps
            · refine' Aft.intro ⟨.tuple [pfxD x1 l1, .tuple ds], .nil, ?v8, .none, ?l8⟩ (by assumption) (by assumption) (fun _ h => h) (fun _ h => nomatch h) (fun _ h => nomatch h) ?hold ?stay ?inv
              case hold => walk_at "names hold"
              case stay => walk_at "names stay"
              case inv => exact ⟨⟨by walk_at "ext", by walk_at "dat", by walk_at "dat", trivial, trivial, (lookGo_end (by assumption) (by assumption)).symm.trans hl⟩, by simp only [Tree.size]; omega⟩
            · refine' Aft.intro ⟨.tuple [pfxD x1 l1, .tuple ds], ta, ?v8, v3, ?l8⟩ (by assumption) (by assumption) (fun _ h => h) (fun _ h => nomatch h) (fun _ h => nomatch h) ?hold ?stay ?inv
              case hold => walk_at "names hold"
              case stay => walk_at "names stay"
              case inv => exact ⟨⟨by walk_at "ext", by walk_at "dat", by walk_at "dat", hoka, hwa, (lookGo_a (by assumption) (by assumption) (by assumption)).symm.trans hl⟩, by simp only [Tree.size]; omega⟩
            · refine' Aft.intro ⟨.tuple [pfxD x1 l1, .tuple ds], tb, ?v8, v4, ?l8⟩ (by assumption) (by assumption) (fun _ h => h) (fun _ h => nomatch h) (fun _ h => nomatch h) ?hold ?stay ?inv
              case hold => walk_at "names hold"
              case stay => walk_at "names stay"
              case inv => exact ⟨⟨by walk_at "ext", by walk_at "dat", by walk_at "dat", hokb, hwb, (lookGo_b (by assumption) (by assumption) (by assumption)).symm.trans hl⟩, by simp only [Tree.size]; omega⟩
        · refine hret _ _ _ _ (by assumption) (by assumption) ⟨hext, ?_⟩
          rw [← hl, lookGo_stop (by assumption)]; exact hf
end
section
theorem fresh17 : True := by w_top off; trivial
local macro_rules | `(tactic| walk_at "con") => `(tactic| (refine' look_con _ _ ?_ ?_ _ _ _ _ _ ?o1 ?o2 ?d1; (case d1 => walk_at "dat"); (case o1 => assumption); (case o2 => assumption); all_goals omega))
local macro_rules | `(tactic| walk_at "call ref") => `(tactic| (k_here; (with_reducible show wpAny _ _ (PySem.call (Value.ref 90) _) _ _ _); walk_at "own call"; walk_at "back d"))






/-- the tree object: its two fields -/
noncomputable abbrev instD (hb ht : Int) (tb tt t3 : Tok) (v : Value) : List DictEntry := [⟨hb, .str (Str.ofString "bits") tb, .int 3 t3⟩, ⟨ht, .str (Str.ofString "tree") tt, v⟩]

theorem mlook_con (w : World) (x : Addr) (dx : Addr) (hb ht : Int) (tb tt t3 : Tok) (n : Nat) (y : Int) (hy : 0 ≤ y) (hy2 : y < 8) (t : Tree) (news : List (Addr × Obj)) (v : Value) (tx : Tok) (hok : t.ok) (hokW : t.okW) (hv : DatIn news v t.dat)
    (hx : (x, instObj 149 dx) ∈ news) (hdx : (dx, dictOf (instD hb ht tb tt t3 v) n) ∈ news) :
    Con w 132 [.ref x, .int y tx] 6 60 news fun r news' => Ext news news' ∧ DatIn news' r (lookGo y .none t) := by
    unfold Con
    k_fill
    intro p loose mean mg mb dp un gd cn cs a ccd cl outer A₀ base h₀ L m s R B F X N T hk hd hu hret
    k_dflt ktr_enter
    k_steps
    exact hret _ _ _ _ (by assumption) (by assumption) ⟨by walk_at "ext", by walk_at "dat"⟩
end
section
theorem fresh18 : True := by w_top off; trivial
local macro_rules | `(tactic| walk_at "con") => `(tactic| (refine' put_con _ _ _ _ ?_ ?_ ?_ ?_ _ _ _ _ _ _ ?o1 ?d1 ?d2 ?d3; (case d1 => walk_at "dat"); (case d2 => walk_at "dat"); (case d3 => walk_at "dat"); (case o1 => assumption); all_goals omega))
local macro_rules | `(tactic| walk_at "call ref") => `(tactic| (k_here; (with_reducible show wpAny _ _ (PySem.call (Value.ref 83) _) _ _ _); walk_at "own call"; walk_at "back d"))





local macro_rules | `(tactic| walk_at "setAttr ref") => `(tactic| (k_here; refine halt ?_))

/-- one entry of the ledger in front, the others apart from it -/
theorem led_front {h₀ h : Heap} {L d : Addr} {o : Obj} {X : List (Addr × Obj)} (N : News h₀ L h X) (hd : (d, o) ∈ X) : ∃ Y, News h₀ L h ((d, o) :: Y) ∧ (∀ p ∈ Y, @Ne Nat p.1 d) ∧ (∀ p ∈ X, @Ne Nat p.1 d → p ∈ Y) ∧ ∀ p ∈ Y, p ∈ X := by
  refine ⟨X.filter fun p => decide (@Ne Nat p.1 d), fun p hp => ?_, fun p hp => ?_, fun p hp hn => ?_, fun p hp => (List.mem_filter.mp hp).1⟩
  · rcases List.mem_cons.mp hp with rfl | hp
    · exact N _ hd
    · exact N p (List.mem_filter.mp hp).1
  · simpa using (List.mem_filter.mp hp).2
  · exact List.mem_filter.mpr ⟨hp, by simpa using hn⟩
/-- two entries of other classes lie apart -/
theorem led_ne {h₀ h : Heap} {L a b : Addr} {o q : Obj} {X : List (Addr × Obj)} (N : News h₀ L h X) (ha : (a, o) ∈ X) (hb : (b, q) ∈ X) (hc : o.cls ≠ q.cls) : @Ne Nat a b := by
  intro e
  have e' : a = b := e
  subst e'
  have h1 := (N _ ha).1
  have h2 := (N _ hb).1
  rw [show ((a, o) : Addr × Obj).1 = (a, q).1 from rfl, h2] at h1
  exact hc (congrArg Obj.cls (Option.some.inj h1)).symm

mutual
noncomputable def NoL : Dat → Prop
  | .list _ => False
  | .tuple ds => NoLs ds
  | _ => True
noncomputable def NoLs : List Dat → Prop
  | [] => True
  | d :: ds => NoL d ∧ NoLs ds
end
theorem dat_to {X Y : List (Addr × Obj)} (ht : ∀ (a : Addr) (vs : List Value) (n : Nat), (a, ({ cls := .type "tuple", data := .seq vs.toArray n } : Obj)) ∈ X → (a, ({ cls := .type "tuple", data := .seq vs.toArray n } : Obj)) ∈ Y) {v : Value} {d : Dat} (h : DatIn X v d) :
    (NoL d ∨ ∀ (a : Addr) (vs : List Value) (n : Nat), (a, listOf vs.toArray n) ∈ X → (a, listOf vs.toArray n) ∈ Y) → DatIn Y v d := by
  generalize hl : (∀ (a : Addr) (vs : List Value) (n : Nat), (a, listOf vs.toArray n) ∈ X → (a, listOf vs.toArray n) ∈ Y) = H
  refine DatIn.rec (motive_1 := fun v d _ => (NoL d ∨ H) → DatIn Y v d) (motive_2 := fun vs ds _ => (NoLs ds ∨ H) → DatAll Y vs ds) (fun _ => .none) (fun b _ => .bool b) (fun i t _ => .int i t) (fun i t _ => .str i t) (fun b t _ => .bytes b t)
    (fun hm _ ih k => .tuple (ht _ _ _ hm) (ih k)) (fun hm _ ih k => k.elim (fun k => False.elim k) fun k => .list ((hl.mpr k) _ _ _ hm) (ih (.inr k))) (fun _ => .nil) (fun _ _ ih1 ih2 k => .cons (ih1 (k.imp (fun k => k.1) id)) (ih2 (k.imp (fun k => k.2) id))) h
theorem datIn_mono2 {X Y : List (Addr × Obj)} (hs : ∀ p ∈ X, p.2.cls = .type "tuple" ∨ p.2.cls = .type "list" → p ∈ Y) {v : Value} {d : Dat} (h : DatIn X v d) : DatIn Y v d :=
  dat_to (fun _ _ _ h => hs _ h (.inl rfl)) h (.inr fun _ _ _ h => hs _ h (.inr rfl))
local macro_rules | `(tactic| k_all) => `(tactic| assumption)

theorem mput_con (w : World) (x dx : Addr) (hb ht : Int) (tb tt t3 : Tok) (px pl : Int) (wd : Dat) (hx : 0 ≤ px) (hx2 : px < 8) (hl0 : 0 ≤ pl) (hl1 : pl ≤ 3) (t : Tree) (rest : List (Addr × Obj)) (v vp vw : Value) (hok : t.ok) (hv : DatIn rest v t.dat) (hp : DatIn rest vp (pfxD px pl)) (hw : DatIn rest vw wd)
    (hxd : @Ne Nat x dx) (hoff : ∀ p ∈ rest, @Ne Nat p.1 dx) :
    Con w 118 [.ref x, vp, vw] (t.depth + 10) (8 * t.depth + 80) ((dx, dictOf (instD hb ht tb tt t3 v) 2) :: (x, instObj 149 dx) :: rest) fun r news' => r = .none ∧ ∃ v' Y, news' = (dx, dictOf (instD hb ht tb tt t3 v') 2) :: Y ∧ (∀ p ∈ Y, @Ne Nat p.1 dx) ∧
      (x, instObj 149 dx) ∈ Y ∧ (∀ p ∈ rest, p ∈ Y) ∧ (∀ p ∈ Y, p ∈ rest ∨ p = (x, instObj 149 dx) ∨ p.2.cls = .type "tuple") ∧ DatIn Y v' (treePut px pl wd t).dat := by
    unfold Con
    k_fill
    intro p loose mean mg mb dp un gd cn cs a ccd cl outer A₀ base h₀ L m s R B F X N T hk hd hu hret
    k_dflt ktr_enter
    k_steps
    unfold Halt
    with_reducible rename News _ _ _ _ => N9
    with_reducible rename Ext _ _ => e9
    with_reducible rename DatIn _ _ (Tree.dat _) => d9
    obtain ⟨Y, NY, y1, y2, y3⟩ := led_front N9 (e9.mem (.head _))
    have hxY := y2 _ (e9.mem (.tail _ (.head _))) hxd
    have hrY : ∀ p ∈ rest, p ∈ Y := fun p hp => y2 p (e9.mem (.tail _ (.tail _ hp))) (hoff p hp)
    have dY := datIn_mono2 (Y := Y) (fun p hp hc => y2 p hp (led_ne N9 (a := p.1) (o := p.2) hp (e9.mem (.head _)) (by rcases hc with hc | hc <;> rw [hc] <;> (intro q; exact absurd (Value.type.inj q) (by decide))))) d9
    have eY : ∀ p ∈ Y, p ∈ rest ∨ p = (x, instObj 149 dx) ∨ p.2.cls = .type "tuple" := fun p hp => by
      rcases e9.2 p (y3 p hp) with h | h
      · rcases List.mem_cons.mp h with rfl | h
        · exact absurd rfl (y1 _ hp)
        · rcases List.mem_cons.mp h with rfl | h
          · exact .inr (.inl rfl)
          · exact .inl h
      · exact .inr (.inr h)
    clear N9 e9 d9
    k_dflt (refine' set_dict ?k1 ?k2 ?k3 ?k4 ?k5 ?k6 ?k7 ?k8 ?k9 ?k10 ?k11 ?k12 ?k13 ?_; (case k1 => k_asm); (case k2 => k_asm); (case k3 => k_asm); (case k4 => k_inst); (case k5 => exact rfl); (case k6 => k_is); (case k7 => k_is); (case k8 => k_is); (case k9 => k_is); (case k10 => k_get); (case k11 => k_put); (case k12 => k_upd); (case k13 => exact Nat.le_of_ble_eq_true rfl); k_whole; intro h' F' N')
    k_steps
    exact hret _ _ _ _ (by assumption) (by assumption) ⟨rfl, _, Y, rfl, y1, hxY, hrY, eY, dY⟩
end
end
section
theorem fresh19 : True := by w_top off; trivial

section
variable {prog : Program} {w : World} {A : Around} {E : Value → Shared → Prop} {s : Shared} {h₀ : Heap} {L : Addr} {news n₁ n₂ : List (Addr × Obj)} {m : Str → Option Value}
theorem pd_inj {p q : Int × Int} (h : pd p = pd q) : p = q := by
  injection h with h1
  injection h1 with h2 h3
  injection h3 with h4 _
  injection h2 with h5
  injection h4 with h6
  exact Prod.ext h5 h6
theorem pd_mem {p : Int × Int} {ps : List (Int × Int)} : pd p ∈ ps.map pd ↔ p ∈ ps :=
  ⟨fun h => by obtain ⟨q, hq, e⟩ := List.mem_map.mp h; exact pd_inj e ▸ hq, fun h => List.mem_map.mpr ⟨p, h, rfl⟩⟩
theorem pd_ok (p : Int × Int) : kqdOk 8 (pd p) = true := rfl
theorem notIn_pairs {D : Addr} {n : Nat} {vs : List Value} {ps : List (Int × Int)} {p : Int × Int} {v : Value} {Q : Value → Shared → Prop} (N : News h₀ L s.heap news := by k_asm) (hm : (D, listOf vs.toArray n) ∈ news := by k_mem) (hd : DatAll n₁ vs (ps.map pd) := by assumption) (s1 : ∀ q ∈ n₁, q ∈ news := by walk_at "sub") (hp : DatIn n₂ v (pd p) := by assumption) (s2 : ∀ q ∈ n₂, q ∈ news := by walk_at "sub") (hu : A.units + 64 < cLine := by ktr_units)
    (h1 : p ∉ ps → Q (.bool true) s) (h2 : p ∈ ps → Q (.bool false) s) : wpAny (model prog w) A (compareOp .NotIn v (.ref D)) Q E s := by
  refine kqd_notIn N hm rfl rfl hd s1 hp s2 (fun d hd => ?_) (pd_ok p) hu ?_
  · obtain ⟨q, _, rfl⟩ := List.mem_map.mp hd
    exact pd_ok q
  · by_cases hc : p ∈ ps
    · simp only [pd_mem, hc, decide_true, Bool.not_true]; exact h2 hc
    · simp only [pd_mem, hc, decide_false, Bool.not_false]; exact h1 hc
theorem in_pairs {D : Addr} {n : Nat} {vs : List Value} {ps : List (Int × Int)} {p : Int × Int} {v : Value} {Q : Value → Shared → Prop} (N : News h₀ L s.heap news := by k_asm) (hm : (D, listOf vs.toArray n) ∈ news := by k_mem) (hd : DatAll n₁ vs (ps.map pd) := by assumption) (s1 : ∀ q ∈ n₁, q ∈ news := by walk_at "sub") (hp : DatIn n₂ v (pd p) := by assumption) (s2 : ∀ q ∈ n₂, q ∈ news := by walk_at "sub") (hu : A.units + 64 < cLine := by ktr_units)
    (h1 : p ∈ ps → Q (.bool true) s) (h2 : p ∉ ps → Q (.bool false) s) : wpAny (model prog w) A (compareOp .In v (.ref D)) Q E s := by
  refine kqd_isIn N hm rfl rfl hd s1 hp s2 (fun d hd => ?_) (pd_ok p) hu ?_
  · obtain ⟨q, _, rfl⟩ := List.mem_map.mp hd
    exact pd_ok q
  · by_cases hc : p ∈ ps
    · simp only [pd_mem, hc, decide_true]; exact h1 hc
    · simp only [pd_mem, hc, decide_false]; exact h2 hc
theorem sorted_list {D : Addr} {n : Nat} {vs : List Value} {ps : List (Int × Int)} {Q : Value → Shared → Prop} (F : Fr h₀ L s.heap m := by k_asm) (N : News h₀ L s.heap news := by k_asm) (hm : (D, listOf vs.toArray n) ∈ news := by k_mem) (hd : DatAll n₁ vs (ps.map pd) := by assumption) (s1 : ∀ q ∈ n₁, q ∈ news := by walk_at "sub") (hn : ps.Nodup := by assumption)
    (hk : ∀ p ∈ ps, 0 ≤ p.2 ∧ p.2 < 100 := by assumption) (h64 : ps.length < 64 := by omega)
    (h : ∀ D c h' tk vs' ps', Fr h₀ L h' m → News h₀ L h' ((D, listOf vs'.toArray c) :: news) → (∀ q ∈ news, q.1 < D) → DatAll news vs' (ps'.map pd) → ps'.Perm ps → Asc ps' → Q (.ref D) { s with heap := h', toks := tk }) :
    wpAny (model prog w) A (call (.builtin "sorted") [.ref D]) Q E s :=
  sorted_pairs F N (hd.mono s1) hn hk h64 (coll_list F N hm (by have := hd.length; rw [List.length_map] at this; omega)) h
theorem tuple_list {D : Addr} {n : Nat} {vs : List Value} {Q : Value → Shared → Prop} (F : Fr h₀ L s.heap m := by k_asm) (N : News h₀ L s.heap news := by k_asm) (hm : (D, listOf vs.toArray n) ∈ news := by k_mem) (hz : vs.length ≤ 16384 := by omega)
    (h : ∀ D' h', Fr h₀ L h' m → News h₀ L h' ((D', ({ cls := .type "tuple", data := .seq vs.toArray } : Obj)) :: news) → (∀ p ∈ news, p.1 < D') → Q (.ref D') { s with heap := h' }) : wpAny (model prog w) A (call (.type "tuple") [.ref D]) Q E s :=
  kde_tupleOf F N ⟨_, N.get hm, rfl, _, rfl⟩ (by rw [List.size_toArray]; exact hz) rfl h
theorem off_app {X Y : List (Addr × Obj)} {D : Addr} (h1 : ∀ q ∈ X, q.1 ≠ D) (h2 : ∀ q ∈ Y, q.1 ≠ D) : ∀ q ∈ X ++ Y, q.1 ≠ D := fun q hq => (List.mem_append.mp hq).elim (h1 q) (h2 q)
theorem off_cons {X : List (Addr × Obj)} {D a : Addr} {o : Obj} (h1 : @Ne Nat a D) (h2 : ∀ q ∈ X, q.1 ≠ D) : ∀ q ∈ (a, o) :: X, q.1 ≠ D := fun q hq => by
  rcases List.mem_cons.mp hq with rfl | hq
  · exact h1
  · exact h2 q hq
theorem off_own {own X : List (Addr × Obj)} {D : Addr} {o : Obj} (h : OwnOff own (X.map (·.1))) (hm : (D, o) ∈ X) : ∀ q ∈ own, q.1 ≠ D := fun q hq => h q hq D (List.mem_map.mpr ⟨_, hm, rfl⟩)
theorem off_lt {X : List (Addr × Obj)} {D : Addr} (h : ∀ q ∈ X, q.1 < D) : ∀ q ∈ X, q.1 ≠ D := fun q hq => Nat.ne_of_lt (h q hq)
theorem own_off {own X : List (Addr × Obj)} (h : OwnOff own (X.map (·.1))) {Y : List (Addr × Obj)} (hs : ∀ q ∈ Y, ∃ o, (q.1, o) ∈ X) : OwnOff own (Y.map (·.1)) := fun p hp b hb => by
  obtain ⟨q, hq, rfl⟩ := List.mem_map.mp hb
  obtain ⟨o, ho⟩ := hs q hq
  exact h p hp q.1 (List.mem_map.mpr ⟨_, ho, rfl⟩)
theorem datP_mono (hs : ∀ q ∈ n₁, q.2.cls = .type "tuple" → q ∈ n₂) {v : Value} {p : Int × Int} (h : DatIn n₁ v (pd p)) : DatIn n₂ v (pd p) := by
  obtain ⟨a, n, t1, t2, rfl, hm⟩ := pd_inv h
  exact .tuple (hs _ hm rfl) (.cons (.int _ _) (.cons (.int _ _) .nil))
theorem datPs_mono (hs : ∀ q ∈ n₁, q.2.cls = .type "tuple" → q ∈ n₂) {vs : List Value} {ps : List (Int × Int)} : DatAll n₁ vs (ps.map pd) → DatAll n₂ vs (ps.map pd) := by
  induction ps generalizing vs with
  | nil => intro h; rw [dats_end h]; exact .nil
  | cons p ps ih =>
    intro h
    obtain ⟨v, r, rfl, i, j⟩ := dats_inv h
    exact .cons (datP_mono hs i) (ih j)
theorem datPs_list {D : Addr} {xs : Array Value} {k : Nat} {vs : List Value} {ps : List (Int × Int)} (h : DatAll ((D, listOf xs k) :: news) vs (ps.map pd)) : DatAll news vs (ps.map pd) :=
  datPs_mono (fun q hq hc => by
    rcases List.mem_cons.mp hq with rfl | hq
    · exact absurd (Value.type.inj hc) (by decide)
    · exact hq) h
theorem sum_take_le : ∀ (l : List Nat) (i : Nat), (l.take i).sum ≤ l.sum
  | [], i => by simp
  | a :: l, 0 => by simp
  | a :: l, i + 1 => by simpa using sum_take_le l i
end
end
section
inductive Wo where
  | via (gs : List Int)
  | direct (h : Int)
  | sink
noncomputable def Wo.dat : Wo → Dat
  | .via gs => .tuple [.str (Str.ofString "via"), .tuple (gs.map .int)]
  | .direct h => .tuple [.str (Str.ofString "direct"), .int h]
  | .sink => .tuple [.str (Str.ofString "sink")]
noncomputable def Wo.ok : Wo → Prop
  | .via gs => gs.length ≤ 2 ∧ ∀ g ∈ gs, 0 ≤ g ∧ g < 8
  | .direct h => 0 ≤ h ∧ h < 3
  | .sink => True
noncomputable abbrev Hit := Option ((Int × Int) × Wo)
noncomputable def hitD : Hit → Dat
  | none => .none
  | some (p, w) => .tuple [pd p, w.dat]

/-- one turn of the breadth-first walk: none where a direct row is met -/
noncomputable def turnGo (lk : Int → Hit) : List Int → List (Int × Int) → List Int → Option (List (Int × Int) × List Int)
  | [], seen, later => some (seen, later)
  | g :: r, seen, later => match lk g with
    | none => turnGo lk r seen later
    | some (p, wo) => if p ∈ seen then turnGo lk r seen later else match wo with
      | .direct _ => none
      | .via gs => turnGo lk r (seen ++ [p]) (later ++ gs)
      | .sink => turnGo lk r (seen ++ [p]) later
inductive DepthR (lk : Int → Hit) (most : Int) : List Int → List (Int × Int) → Int → Option Int → Prop
  | stop {line seen d} : (line = [] ∨ most ≤ d) → DepthR lk most line seen d none
  | hit {line seen d} : line ≠ [] → d < most → turnGo lk line seen [] = none → DepthR lk most line seen d (some d)
  | next {line seen d s' l' r} : line ≠ [] → d < most → turnGo lk line seen [] = some (s', l') → DepthR lk most l' s' (d + 1) r → DepthR lk most line seen d r
/-- the hops that are found from an address on, the prefixes ahead being shut -/
inductive Reach (lk : Int → Hit) (most : Int) : Int → List (Int × Int) → Int × Int → Prop
  | direct {a ahead p h} : lk a = some (p, .direct h) → p ∉ ahead → (ahead.length : Int) < most → Reach lk most a ahead (h, a)
  | via {a ahead p gs g q} : lk a = some (p, .via gs) → p ∉ ahead → (ahead.length : Int) < most → g ∈ gs → Reach lk most g (ahead ++ [p]) q → Reach lk most a ahead q
theorem depthR_stop {lk : Int → Hit} {most d : Int} {line : List Int} {seen : List (Int × Int)} {r : Option Int} (h : DepthR lk most line seen d r) (hs : line = [] ∨ most ≤ d) : r = none := by
  cases h with
  | stop _ => rfl
  | hit h1 h2 _ => rcases hs with h | h; exact absurd h h1; omega
  | next h1 h2 _ _ => rcases hs with h | h; exact absurd h h1; omega
theorem depthR_hit {lk : Int → Hit} {most d : Int} {line : List Int} {seen : List (Int × Int)} {r : Option Int} (h : DepthR lk most line seen d r) (h1 : line ≠ []) (h2 : d < most) (h3 : turnGo lk line seen [] = none) : r = some d := by
  cases h with
  | stop hs => rcases hs with h | h; exact absurd h h1; omega
  | hit _ _ _ => rfl
  | next _ _ h4 _ => rw [h3] at h4; cases h4
theorem depthR_next {lk : Int → Hit} {most d : Int} {line l' : List Int} {seen s' : List (Int × Int)} {r : Option Int} (h : DepthR lk most line seen d r) (h1 : line ≠ []) (h2 : d < most) (h3 : turnGo lk line seen [] = some (s', l')) : DepthR lk most l' s' (d + 1) r := by
  cases h with
  | stop hs => rcases hs with h | h; exact absurd h h1; omega
  | hit _ _ h4 => rw [h3] at h4; cases h4
  | next _ _ h4 h5 => rw [h3] at h4; cases h4; exact h5
end
section
theorem fresh21 : True := by w_top off; trivial

section
variable {prog : Program} {w : World} {A : Around} {E : Value → Shared → Prop} {s : Shared} {h₀ : Heap} {L : Addr} {news n₁ n₂ led rest : List (Addr × Obj)} {m : Str → Option Value}
theorem led_fn {h : Heap} (N : News h₀ L h led) {a : Addr} {o o' : Obj} (h1 : (a, o) ∈ led) (h2 : (a, o') ∈ led) : o = o' := Option.some.inj ((N.get h1).symm.trans (N.get h2))
theorem off_cls {h : Heap} (N : News h₀ L h led) {D : Addr} {o : Obj} (hD : (D, o) ∈ led) {X : List (Addr × Obj)} (hs : ∀ q ∈ X, q ∈ led) (hc : ∀ q ∈ X, q.2.cls ≠ o.cls) : ∀ q ∈ X, q.1 ≠ D := fun q hq e => by
  have h1 : (D, q.2) ∈ led := e ▸ hs q hq
  exact hc q hq (by rw [led_fn N h1 hD])
theorem append_at' {D : Addr} {n : Nat} {vs : List Value} {x : Value} {Q : Value → Shared → Prop} (rest : List (Addr × Obj)) (F : Fr h₀ L s.heap m) (N : News h₀ L s.heap led) (hm : (D, listOf vs.toArray n) ∈ led) (hr : ∀ q ∈ rest, q ∈ led) (ho : ∀ q ∈ rest, q.1 ≠ D) (hz : vs.length ≤ 10000)
    (h : ∀ h' n', Fr h₀ L h' m → News h₀ L h' ((D, listOf (vs ++ [x]).toArray n') :: rest) → Q .none { s with heap := h' }) : wpAny (model prog w) A (call (.builtin "list.append") [.ref D, x]) Q E s := by
  refine append_K (news := (D, listOf vs.toArray n) :: rest) F (fun q hq => N q ?_) (.head ho) (fun h' F' N' => ?_) (by rw [List.size_toArray, sizeLine_eq]; omega)
  · rcases List.mem_cons.mp hq with rfl | hq
    · exact hm
    · exact hr q hq
  · rw [List.push_toArray] at N'
    exact h h' _ F' N'
theorem extend_at' {D b : Addr} {ob : Obj} {n k : Nat} {vs ws : List Value} {Q : Value → Shared → Prop} (rest : List (Addr × Obj)) (F : Fr h₀ L s.heap m) (N : News h₀ L s.heap led) (hm : (D, listOf vs.toArray n) ∈ led) (hr : ∀ q ∈ rest, q ∈ led) (ho : ∀ q ∈ rest, q.1 ≠ D)
    (hb : (b, ob) ∈ led) (hc : ob.cls = .type "list" ∨ ob.cls = .type "tuple") (hd : ob.data = .seq ws.toArray k) (hz : vs.length + ws.length ≤ 10000)
    (h : ∀ h' n', Fr h₀ L h' m → News h₀ L h' ((D, listOf (vs ++ ws).toArray n') :: rest) → Q .none { s with heap := h' }) : wpAny (model prog w) A (call (.builtin "list.extend") [.ref D, .ref b]) Q E s := by
  have hD := N.get hm
  have hB := N.get hb
  refine wpAny_call_entry PySem.F.slot_list_extend ⟨_, hD, rfl⟩ PySem.F.entry_list_extend ?_ (PySem.F.args_list_extend_2 _ _)
  show wpAny _ _ (Builtin.List.listExtendWith (.ref D) (.ref b) .none) _ _ s
  unfold Builtin.List.listExtendWith
  refine wpAny_bind (Looks.here (show Looks _ s.heap (typeOf (.ref b)) ob.cls from (Looks.ld hB).andThen .now) ?_)
  have hc' : (Builtin.List.listSameRef (.ref D) (.ref b) || ob.cls == .type "list" || ob.cls == .type "tuple") = true := by
    rcases hc with e | e <;> rw [e] <;> simp
  rw [if_pos hc']
  refine wpAny_bind (listItems_at hB hd ?_)
  refine wpAny_bind (listItems_at (xs := vs.toArray) (n := n) hD rfl ?_)
  have hz' : (!vs.toArray.isEmpty && Builtin.List.listTooLong (vs.toArray.size + ws.toArray.size)) = false := by
    have : Builtin.List.listTooLong (vs.toArray.size + ws.toArray.size) = false := by
      unfold Builtin.List.listTooLong
      simp only [List.size_toArray]
      first | (rw [decide_eq_false]; omega) | (simp only [decide_eq_false_iff_not]; rw [sizeLine_eq]; omega) | (simp; omega)
    rw [this, Bool.and_false]
  rw [hz', if_neg (by simp)]
  refine wpAny_bind (listUpdate_at (xs := vs.toArray) (n := n) hD rfl ?_ (by rw [List.size_toArray, sizeLine_eq]; omega) (by rw [Array.size_append, List.size_toArray, List.size_toArray, sizeLine_eq]; omega))
  have hs := Heap.SameBut.update s.heap D (Obj.mapSeq (· ++ ws.toArray))
  obtain ⟨c, hc2⟩ : ∃ c, (s.heap.update D (Obj.mapSeq (· ++ ws.toArray))).get? D = some (seqObj "list" (vs.toArray ++ ws.toArray) c) := ⟨_, get?_update_seq hD (· ++ ws.toArray)⟩
  have e : vs.toArray ++ ws.toArray = (vs ++ ws).toArray := by simp
  rw [e] at hc2
  refine wpAny_pure ⟨_, rfl, h _ c (kas_fr F hs (N _ hm).2.1 (N _ hm).2.2) fun q hq => ?_⟩
  rcases List.mem_cons.mp hq with rfl | hq
  · exact ⟨hc2, (N _ hm).2⟩
  · exact kas_news (news := rest) (fun q hq => N q (hr q hq)) hs ho q hq
theorem ext_split {X Y : List (Addr × Obj)} (e : Ext X Y) : ∃ T, (∀ q ∈ T, q.2.cls = .type "tuple") ∧ (∀ q ∈ X ++ T, q ∈ Y) ∧ ∀ q ∈ Y, q ∈ X ++ T := by
  classical
  refine ⟨Y.filter fun q => decide (q.2.cls = .type "tuple"), fun q hq => of_decide_eq_true (List.mem_filter.mp hq).2, fun q hq => ?_, fun q hq => ?_⟩
  · rcases List.mem_append.mp hq with hq | hq
    · exact e.1 q hq
    · exact (List.mem_filter.mp hq).1
  · rcases e.2 q hq with h | h
    · exact List.mem_append_left _ h
    · exact List.mem_append_right _ (List.mem_filter.mpr ⟨hq, decide_eq_true h⟩)
end
theorem con_bound {w : World} {b f : Addr} {x : Value} {vs : List Value} {dneed uneed : Nat} {news : List (Addr × Obj)} {Post : Value → List (Addr × Obj) → Prop}
    {p : Program} {loose : List Str} {mean : ExcName → Option Value} {mg mb : Str → Option Value} {dp un : Nat} {gd : Option (List Code)} {cn : Str} {cs : Scope} {a : Addr} {ccd : Value} {cl : List (Str × Addr)} {outer : List Env} {A₀ : Around} {base h₀ : Heap} {L : Addr} {m : Str → Option Value} {s : Shared} {Q E : Value → Shared → Prop}
    (B : Below A₀ base outer h₀ := by k_asm) (F : Fr h₀ L s.heap m := by k_asm) (X : (hd.heap_1 w.params).In h₀ := by k_asm) (N : News h₀ L s.heap news := by k_asm) (T : Top p loose mean mg mb h₀ := by k_asm) (hb : (b, methodObj (.ref f) x) ∈ news := by k_mem) (C : Con w f (x :: vs) dneed uneed news Post) (hk : cs.kind = .function := by first | exact rfl | assumption) (hd' : dp + dneed < recursionLimit := by ktr_room) (hu : un + uneed < cLine := by ktr_units)
    (h : ∀ r news' h' tk', Fr h₀ L h' m → News h₀ L h' news' → Post r news' → Q r { s with heap := h', toks := tk' }) :
    wpAny (model PySem.Challenge.rw_rh0204_01.row.prog w) (ktrTop dp un gd cn cs L a ccd cl outer) (call (.ref b) vs) Q E s :=
  wpAny_call (ks_codeAny_call_bound (N.get hb) (C p loose mean mg mb dp un gd cn cs a ccd cl outer A₀ base h₀ L m s _ B F X N T hk hd' hu h))
section
variable {prog : Program} {w : World} {A : Around} {E : Value → Shared → Prop} {s : Shared} {h₀ : Heap} {L : Addr} {n₁ led : List (Addr × Obj)} {m : Str → Option Value}
theorem ne_nil {D D2 : Addr} {n k : Nat} {vs : List Value} {ds : List Dat} {Q : Value → Shared → Prop} (N : News h₀ L s.heap led := by k_asm) (hm : (D, listOf vs.toArray n) ∈ led := by k_mem) (hm2 : (D2, listOf #[] k) ∈ led := by k_mem) (hd : DatAll n₁ vs ds := by assumption) (s1 : ∀ q ∈ n₁, q ∈ led := by walk_at "sub") (hk : ∀ d ∈ ds, kqdOk 8 d = true := by first | exact ints_ok _ | exact pds_ok _ | walk_at "ones") (hu : A.units + 64 < cLine := by ktr_units)
    (h1 : ds ≠ [] → Q (.bool true) s) (h2 : ds = [] → Q (.bool false) s) : wpAny (model prog w) A (compareOp .NotEq (.ref D) (.ref D2)) Q E s := by
  refine kqd_ne N hm rfl rfl hd s1 (ys := []) hm2 rfl rfl (.nil : DatAll n₁ [] []) s1 hk (fun _ h => nomatch h) hu ?_
  by_cases hc : ds = []
  · simp only [hc, decide_true, Bool.not_true]; exact h2 hc
  · simp only [hc, decide_false, Bool.not_false]; exact h1 hc
end
theorem hit_inv {news : List (Addr × Obj)} {v : Value} {p : Int × Int} {wo : Wo} (h : DatIn news v (hitD (some (p, wo)))) : ∃ a k v1 v2, v = .ref a ∧ (a, tupO [v1, v2] k) ∈ news ∧ DatIn news v1 (pd p) ∧ DatIn news v2 wo.dat := pair_inv h
theorem wo_inv {news : List (Addr × Obj)} {v : Value} {wo : Wo} (h : DatIn news v wo.dat) : ∃ a k, v = .ref a ∧ match wo with
    | .via gs => ∃ t v2, (a, tupO [.str (Str.ofString "via") t, v2] k) ∈ news ∧ DatIn news v2 (.tuple (gs.map .int))
    | .direct d => ∃ t t2, (a, tupO [.str (Str.ofString "direct") t, .int d t2] k) ∈ news
    | .sink => ∃ t, (a, tupO [.str (Str.ofString "sink") t] k) ∈ news := by
  cases wo with
  | via gs =>
    obtain ⟨_, _, _, _, e, m, i, j⟩ := pair_inv h
    obtain ⟨_, rfl⟩ := str_inv i
    exact ⟨_, _, e, _, _, m, j⟩
  | direct d =>
    obtain ⟨_, _, _, _, e, m, i, j⟩ := pair_inv h
    obtain ⟨_, rfl⟩ := str_inv i
    obtain ⟨_, rfl⟩ := int_inv j
    exact ⟨_, _, e, _, _, m⟩
  | sink =>
    obtain ⟨_, _, _, e, m, h⟩ := dat_tuple_inv h
    obtain ⟨_, _, rfl, i, h2⟩ := dats_inv h
    obtain ⟨_, rfl⟩ := str_inv i
    obtain rfl := dats_end h2
    exact ⟨_, _, e, _, m⟩
theorem row_keep {a1 a2 a3 : Addr} {o1 o2 o3 : Obj} {X Y T own : List (Addr × Obj)} (h1 : o1.cls ≠ .type "tuple") (h2 : o2.cls ≠ .type "tuple") (h3 : o3.cls ≠ .type "tuple") (ho : ∀ q ∈ own, q.2.cls ≠ .type "tuple") {q : Addr × Obj} (hc : q.2.cls = .type "tuple")
    (h : q ∈ ((a1, o1) :: (a2, o2) :: (a3, o3) :: (X ++ Y) ++ own) ++ T) : q ∈ X ++ (Y ++ T) := by
  rcases List.mem_append.mp h with h | h
  · rcases List.mem_append.mp h with h | h
    · rcases List.mem_cons.mp h with rfl | h
      · exact absurd hc h1
      · rcases List.mem_cons.mp h with rfl | h
        · exact absurd hc h2
        · rcases List.mem_cons.mp h with rfl | h
          · exact absurd hc h3
          · rw [← List.append_assoc]; exact List.mem_append_left _ h
    · exact absurd hc (ho q h)
  · exact List.mem_append_right _ (List.mem_append_right _ h)
theorem row_mem {a1 a2 a3 : Addr} {o1 o2 o3 : Obj} {X Y T own : List (Addr × Obj)} (q : Addr × Obj) (h : q ∈ (a1, o1) :: (a2, o2) :: (a3, o3) :: (X ++ (Y ++ T)) ++ own) : q ∈ ((a1, o1) :: (a2, o2) :: (a3, o3) :: (X ++ Y) ++ own) ++ T := by
  simp only [List.mem_append, List.mem_cons] at h ⊢
  grind
theorem wo_mono {X Y : List (Addr × Obj)} (hs : ∀ q ∈ X, q.2.cls = .type "tuple" → q ∈ Y) {v : Value} {wo : Wo} (h : DatIn X v wo.dat) : DatIn Y v wo.dat := by
  obtain ⟨a, k, rfl, hm⟩ := wo_inv h
  cases wo with
  | via gs =>
    obtain ⟨t, v2, hm, d2⟩ := hm
    refine .tuple (hs _ hm rfl) (.cons (.str _ _) (.cons ?_ .nil))
    obtain ⟨b, vs, j, rfl, hb, db⟩ := dat_tuple_inv d2
    refine .tuple (hs _ hb rfl) ?_
    clear hb d2 hm h hs
    induction gs generalizing vs with
    | nil => cases db; exact .nil
    | cons g gs ih =>
      cases db with
      | cons d r => cases d; exact .cons (.int _ _) (ih _ r)
  | direct d =>
    obtain ⟨t, t2, hm⟩ := hm
    exact .tuple (hs _ hm rfl) (.cons (.str _ _) (.cons (.int _ _) .nil))
  | sink =>
    obtain ⟨t, hm⟩ := hm
    exact .tuple (hs _ hm rfl) (.cons (.str _ _) .nil)
theorem hit_mono {X Y : List (Addr × Obj)} (hs : ∀ q ∈ X, q.2.cls = .type "tuple" → q ∈ Y) {v : Value} {r : Hit} (h : DatIn X v (hitD r)) : DatIn Y v (hitD r) := by
  cases r with
  | none => cases h; exact .none
  | some pw =>
    obtain ⟨p, wo⟩ := pw
    obtain ⟨a, k, v1, v2, rfl, hm, d1, d2⟩ := hit_inv h
    exact .tuple (hs _ hm rfl) (.cons (datP_mono hs d1) (.cons (wo_mono hs d2) .nil))
theorem len_sub : ∀ (xs ys : List (Int × Int)), xs.Nodup → (∀ p ∈ xs, p ∈ ys) → xs.length ≤ ys.length
  | [], _, _, _ => Nat.zero_le _
  | x :: xs, ys, hn, hs => by
    rw [List.nodup_cons] at hn
    have := len_sub xs (ys.erase x) hn.2 fun p hp => (List.mem_erase_of_ne (by rintro rfl; exact hn.1 hp)).mpr (hs p (.tail _ hp))
    rw [List.length_erase_of_mem (hs x (.head _))] at this
    have : 0 < ys.length := List.length_pos_of_mem (hs x (.head _))
    rw [List.length_cons]
    omega
theorem ints_ok (ls : List Int) : ∀ d ∈ ls.map Dat.int, kqdOk 8 d = true := fun d hd => by obtain ⟨i, _, rfl⟩ := List.mem_map.mp hd; rfl
theorem pds_ok (ls : List (Int × Int)) : ∀ d ∈ ls.map pd, kqdOk 8 d = true := fun d hd => by obtain ⟨i, _, rfl⟩ := List.mem_map.mp hd; rfl
theorem own_ext {h₀ h : Heap} {L : Addr} {led own X Y : List (Addr × Obj)} (N : News h₀ L h led) (hown : OwnOff own (X.map (·.1))) (hoc : ∀ q ∈ own, q.2.cls ≠ .type "tuple") (ho : ∀ q ∈ own, q ∈ led) (hY : ∀ q ∈ Y, (∃ o, (q.1, o) ∈ X) ∨ (q ∈ led ∧ q.2.cls = .type "tuple")) : OwnOff own (Y.map (·.1)) := fun p hp b hb => by
  obtain ⟨q, hq, rfl⟩ := List.mem_map.mp hb
  rcases hY q hq with ⟨o, h1⟩ | ⟨h1, h2⟩
  · exact hown p hp q.1 (List.mem_map.mpr ⟨_, h1, rfl⟩)
  · intro e
    have h3 : (q.1, p.2) ∈ led := e ▸ ho p hp
    exact hoc p hp (by rw [led_fn N h3 h1]; exact h2)
theorem allLt_to {d : Addr} {l : List (Addr × Obj)} (h : AllLt d l) : ∀ p ∈ l, p.1 < d := by
  induction l with
  | nil => intro p hp; cases hp
  | cons q r ih =>
    intro p hp
    rcases List.mem_cons.mp hp with e | hp
    · rw [e]; exact h.1
    · exact ih h.2 p hp
end
section
theorem no_hops {w : World} {h : Heap} (X : (hd.heap_1 w.params).In h) : ∃ n, h.get? 22 = some { cls := .type "tuple", data := .seq #[] n } := ⟨0, X 22 _ (by rfl)⟩
section
variable {prog : Program} {w : World} {A : Around} {E : Value → Shared → Prop} {s : Shared} {env : Env} {h₀ : Heap} {Q : Flow → Shared → Prop}
theorem for_base0 {x : Str} {body : List Stmt} {b : Addr} {n : Nat} {m₀ : Str → Option Value} {news : List (Addr × Obj)} (hh : A.handled = none) (hb : h₀.get? b = some { cls := .type "tuple", data := .seq #[] n })
    (F : Fr h₀ env.locals s.heap m₀) (N : News h₀ env.locals s.heap news)
    (done : ∀ h tk, Fr h₀ env.locals h m₀ → News h₀ env.locals h news → Q .next { s with heap := h, toks := tk }) :
    wpAny (model prog w) A (pyIter (.ref b)) (fun it s₂ => LoopAtV prog w A h₀ env x body Q E it s₂) E s := by
  have ho : s.heap.get? b = some { cls := .type "tuple", data := .seq #[] n } := F.keep b _ hb
  have hT : s.heap.IsTuple b #[] := ⟨_, ho, rfl, _, rfl⟩
  have hlt : b < s.heap.objs.size := Heap.lt_size ho
  have hbl : b < h₀.objs.size := Heap.lt_size hb
  refine wpAny_pyIter_tuple hT ?_
  have W := Walks.tuple (prog := prog) (w := w) hh s.heap.objs.size b (Nat.ne_of_lt hlt) #[]
  refine loopAtV_in (m := m₀) (news := news) (fun _ m nx => m = m₀ ∧ nx = news) W ?_ ?_ ?_ ⟨⟨_, Heap.get?_push_size _ rfl, rfl, rfl⟩, hT.push _⟩ (F.push _) (N.grown fun b o e => Heap.get?_push_of_some _ e) ⟨rfl, rfl⟩ ?_ ?_
  · intro hm
    rcases List.mem_cons.mp hm with h | h
    · exact absurd F.ns.lt (h ▸ Nat.lt_irrefl _)
    · exact absurd (Nat.lt_of_lt_of_le hbl F.above) ((List.mem_singleton.mp h) ▸ Nat.lt_irrefl _)
  · intro c hc
    rw [List.mem_singleton.mp hc]
    exact Heap.get?_none_of_le (Nat.le_trans F.above (Nat.le_of_lt F.ns.lt))
  · intro p hp hI
    exact absurd (Heap.lt_size (N p hp).1) ((List.mem_singleton.mp hI) ▸ Nat.lt_irrefl _)
  · intro i v m₁ news₁ s₁ own _ hi
    exact absurd hi (Nat.not_lt_zero i)
  · rintro h' tk m' nx F' N' _ ⟨rfl, rfl⟩
    exact done h' tk F' N'
end
end
section
local macro_rules | `(tactic| walk_at "dat") => `(tactic| first | assumption | exact DatIn.none | exact DatIn.int _ _ | exact DatIn.str _ _ | (refine' Ext.dat (by assumption) (by walk_at "dat")) | (refine' dat_tail (by walk_at "dat")) | (refine' DatIn.mono ?dh ?di; (case di => assumption); (case dh => walk_at "sub")) | (refine' DatIn.tuple (by k_mem) (by walk_at "dats")))
local macro_rules | `(tactic| walk_at "sub") => `(tactic| (intro q hq; k_mem))
local macro_rules | `(tactic| walk_at "dall") => `(tactic| first | assumption | (refine' DatAll.mono ?ds ?dd; (case dd => assumption); (case ds => walk_at "sub")))
local macro_rules | `(tactic| walk_at "exec For") => `(tactic| (k_here; (with_reducible rename Fr _ _ _ _ => lF'); (with_unfolding_all refine' For_invVF lF' rfl rfl ?_; k_whole)))
local macro_rules | `(tactic| walk_at "pyIter ref") => `(tactic| (k_here; refine halt ?_))
local macro_rules | `(tactic| walk_at "compareOp NotIn ref ref") => `(tactic| (k_here; k_dflt (refine' notIn_pairs (h1 := ?_) (h2 := ?_)); all_goals intro hin9))
local macro_rules | `(tactic| walk_at "compareOp In ref ref") => `(tactic| (k_here; k_dflt (refine' in_pairs (h1 := ?_) (h2 := ?_)); all_goals intro hin9))
local macro_rules | `(tactic| walk_at "call builtin:sorted") => `(tactic| (k_here; k_dflt (refine' sorted_list (h := ?_)); intro D9 c9 h9 tk9 vs9 ps9 F9 N9 lt9 d9 perm9 asc9; have z9 := DatAll.length d9; have z8 := List.Perm.length_eq perm9; rw [List.length_map] at z9; (try walk_at "own fold")))
local macro_rules | `(tactic| walk_at "own stays") => `(tactic| (intro q hq; first | exact List.mem_append_right _ hq | exact List.Mem.tail _ (List.mem_append_right _ hq) | exact List.Mem.tail _ (List.Mem.tail _ (List.mem_append_right _ hq)) | exact List.Mem.tail _ (List.Mem.tail _ (List.Mem.tail _ (List.mem_append_right _ hq)))))
local macro_rules | `(tactic| walk_at "led stays") => `(tactic| (intro q hq; first | exact List.mem_append_left _ hq | exact List.Mem.tail _ (List.mem_append_left _ hq) | exact List.Mem.tail _ (List.Mem.tail _ (List.mem_append_left _ hq))))
local macro_rules | `(tactic| k_all) => `(tactic| assumption)
local macro_rules | `(tactic| walk_at "call builtin:list.append") => `(tactic| (k_here; k_dflt (refine' append_K (by k_asm) (by k_asm) (by k_upd) ?_ (by rw [List.size_toArray, sizeLine_eq]; omega); k_whole); intro h' F' N'; (try k_sweep)))
local macro_rules | `(tactic| walk_at "call type:tuple") => `(tactic| (k_here; k_dflt (refine' tuple_list (h := ?_)); intro D8 h8 F8 N8 lt8; (try walk_at "own fold")))
local macro_rules | `(tactic| walk_at "exec While") => `(tactic| (k_here; refine halt ?_))
local macro_rules | `(tactic| walk_at "compareOp NotEq ref ref") => `(tactic| (k_here; k_dflt (refine' ne_nil (h1 := ?_) (h2 := ?_)); all_goals intro ne9))
local macro_rules | `(tactic| walk_at "look call") => `(tactic| (k_dflt (refine' con_bound (C := by refine' mlook_con _ _ _ _ _ _ _ _ _ _ (by assumption) (by assumption) _ _ _ _ (by assumption) (by assumption) (by walk_at "dat") (by k_mem) (by k_mem)) (h := ?_))))
local macro_rules | `(tactic| walk_at "enter cells") => `(tactic| (k_dflt (refine' code_defC (by k_asm) (by k_asm) (by k_asm) (by k_asm) (by k_asm) (by rfl) (by rfl) (by assumption) (by k_is) (by k_is) (by ktr_room) (by exact BindsTo.of_eq rfl) (by rfl) (by decide +kernel) ?_ (by rfl) (by rfl) (by rfl); k_whole; intro g' L' h' tk' cells' FG' F' N' Y' B' X' T' l1; (try k_lt l1); k_cells Y'; (try simp only [List.cons_append, List.nil_append] at N'); (try dsimp only); (try k_lift B'); (try walk_at "own fold"))))
local macro_rules | `(tactic| walk_at "tuple item") => `(tactic| (k_dflt (refine' item_tupleT (by exact News.isTup (by k_asm) (by k_mem)) (by decide) (by decide) (by rfl) (by rfl) ?_; k_whole)))
local macro_rules | `(tactic| walk_at "own call") => `(tactic| (k_dflt (refine' con_call (C := by first | assumption | walk_at "con") (h := ?_))))
section
theorem fresh23 : True := by w_top off; trivial

local macro_rules | `(tactic| walk_at "isTrue BoolOp") => `(tactic| (k_here; walk_at "own fold"))
local macro_rules | `(tactic| walk_at "eval Call") => `(tactic| (k_here; walk_at "own fold"))
local macro_rules | `(tactic| walk_at "isTrue Compare") => `(tactic| (k_here; walk_at "own fold"))
local macro_rules | `(tactic| walk_at "eval Tuple") => `(tactic| (k_here; walk_at "own fold"))
local macro_rules | `(tactic| walk_at "eval BinOp") => `(tactic| (k_here; walk_at "own fold"))
local macro_rules | `(tactic| walk_at "exec Assign") => `(tactic| (k_here; walk_at "own fold"))
local macro_rules | `(tactic| walk_at "eval Subscript") => `(tactic| (k_here; walk_at "own fold"))
noncomputable def HopV (news : List (Addr × Obj)) (v : Value) (ps : List (Int × Int)) : Prop := DatIn news v (.tuple (ps.map pd)) ∨ (v = .ref 22 ∧ ps = [])
theorem merged_con2 (w : World) (l : Addr) (c : Nat) (vs : List Value) (qs : List (List (Int × Int))) (news : List (Addr × Obj)) (hl : (l, listOf vs.toArray c) ∈ news) (hdl : vs.length = qs.length) (hd : ∀ (i : Nat) (v : Value) (q : List (Int × Int)), vs[i]? = some v → qs[i]? = some q → HopV news v q)
    (hb : ∀ q ∈ qs, ∀ p ∈ q, 0 ≤ p.2 ∧ p.2 < 100) (hz : (qs.map List.length).sum < 64) (hz2 : qs.length < 64) :
    Con w 29 [.ref l] 6 120 news fun r news' => Ext news news' ∧ ∃ ps, DatIn news' r (.tuple (ps.map pd)) ∧ Asc ps ∧ ∀ p, p ∈ ps ↔ ∃ q ∈ qs, p ∈ q := by
  unfold Con
  k_fill
  intro p loose mean mg mb dp un gd cn cs a ccd cl outer A₀ base h₀ L m s R B F X N T hk hdp hu hret
  k_dflt ktr_enter
  k_steps
  unfold Halt
  rename_i tk0 D h0 F0 g0 L0 N0 
  refine for_list (σ := List Value × List (Int × Int) × Nat) (fun _ => []) [Str.ofString "hop"] (fun c => (D, listOf c.1.toArray c.2.2) :: news) (fun i c => DatAll news c.1 (c.2.1.map pd) ∧ c.2.1.Nodup ∧ (∀ p, p ∈ c.2.1 ↔ ∃ q ∈ qs.take i, p ∈ q) ∧ c.2.1.length ≤ ((qs.take i).map List.length).sum) ([], [], 0) rfl (fun _ _ _ => .tail _ hl) (by assumption) (by assumption) (fun _ h => h) (fun _ h => nomatch h) ⟨.nil, .nil, by simp, by simp⟩ ⟨?_, ?_⟩
  · rintro i v J9_2 u h tk own hi hv J0 hown hoc F1 N1
    refine cps fun Pz kz => ?_
    obtain ⟨fv, fs, n⟩ := J9_2
    refine an4 J0 fun j1 j2 j3 j4 => ?_
    clear J0
    refine kz ?_
    clear kz Pz
    dsimp only at j1 j2 j3 j4 hown N1
    have hiq : i < qs.length := by omega
    have hbi := hb _ (List.getElem_mem hiq)
    rcases hd i v _ hv (List.getElem?_eq_getElem hiq) with dv | ⟨rfl, hq0⟩
    rotate_left
    · with_reducible rename Frag.In _ _ => X9
      obtain ⟨nb, hnb⟩ := no_hops X9
      k_steps
      unfold Halt
      refine for_base0 rfl hnb (by assumption) (by assumption) fun h5 tk5 F5 N5 => ?_
      k_steps
      refine Aft.intro (fv, fs, n) (by assumption) (by assumption) (by walk_at "led stays") (by walk_at "own stays") hown (fun _ h => nomatch h) (by walk_at "names stay") ⟨j1, j2, ?_, ?_⟩
      · intro p
        dsimp only
        rw [List.take_succ_eq_append_getElem hiq, j3, hq0, ex_snoc]
        exact ⟨.inl, fun x => x.elim id fun h => (nomatch h)⟩
      · dsimp only
        rw [List.take_succ_eq_append_getElem hiq, List.map_append, List.sum_append]
        simp only [List.map_cons, List.map_nil, List.sum_cons, List.sum_nil]
        omega
    refine cps fun Pz kz => ?_
    obtain ⟨t, ws, k, rfl, ht, dws⟩ := dat_tuple_inv dv
    refine kz ?_
    clear kz Pz
    k_steps
    unfold Halt
    refine for_tuple (σ := List Value × List (Int × Int) × Nat) (fun _ => []) [] (fun c => (D, listOf c.1.toArray c.2.2) :: (news ++ own)) (fun i' c => DatAll news c.1 (c.2.1.map pd) ∧ c.2.1.Nodup ∧ (∀ p, p ∈ c.2.1 ↔ p ∈ fs ∨ p ∈ qs[i].take i') ∧ c.2.1.length ≤ fs.length + i') (fv, fs, n) rfl (fun _ _ _ => .tail _ (List.mem_append_left _ ht)) (by assumption) (by assumption) (fun _ h => h) (fun _ h => nomatch h) ⟨j1, j2, by simp, by simp⟩ ⟨?_, ?_⟩
    · rintro i' v J9_2 u' h' tk' own' hi' hv' J9_9 hown' hoc' F1' N1'
      refine cps fun Pz kz => ?_
      obtain ⟨fv', fs', n'⟩ := J9_2
      obtain ⟨j1', j2', j3', j4'⟩ := J9_9
      refine kz ?_
      clear kz Pz
      dsimp only at j1' j2' j3' j4' hown' N1'
      have hiq' : i' < qs[i].length := by have := dws.length; rw [List.length_map] at this; omega
      refine cps fun Pz kz => ?_
      obtain ⟨v', e1', dv'⟩ := dws.get (k := i') (by rw [List.length_map]; exact hiq')
      obtain rfl : v' = v := Option.some.inj (e1'.symm.trans hv')
      rw [List.getElem_map] at dv'
      obtain ⟨y, ky, t1, t2, rfl, hy⟩ := pd_inv dv'
      refine kz ?_
      clear kz Pz
      have hne : ∀ q ∈ news ++ own ++ own', q.1 ≠ D := off_app (off_app (off_lt F0) (off_own hown (.head _))) (off_own hown' (.head _))
      have hlen' := j1'.length
      rw [List.length_map] at hlen'
      have hle : fs'.length < 64 := by
        have := sum_take_le (qs.map List.length) (i + 1)
        rw [← List.map_take, List.take_succ_eq_append_getElem (by omega), List.map_append, List.sum_append] at this
        simp only [List.map_cons, List.map_nil, List.sum_cons, List.sum_nil] at this
        omega
      k_steps
      · with_reducible rename News _ _ _ _ => N9
        rw [List.push_toArray] at N9
        refine Aft.intro (fv' ++ [.ref y], fs' ++ [qs[i][i']], n' + 1) (by assumption) (by assumption) (by walk_at "led stays") (by walk_at "own stays") hown' (fun _ h => nomatch h) (by walk_at "names stay") ⟨?_, ?_, ?_, ?_⟩
        · dsimp only; rw [List.map_append]; exact j1'.append (.one dv')
        · exact nd_snoc j2' (by assumption)
        · intro p
          dsimp only
          rw [List.take_succ_eq_append_getElem hiq', List.mem_append, List.mem_append, j3', or_assoc]
        · dsimp only; rw [List.length_append, List.length_singleton]; omega
      · refine Aft.intro (fv', fs', n') (by assumption) (by assumption) (fun q hq => ?_) (fun q hq => ?_) hown' (fun _ h => nomatch h) (by walk_at "names stay") ⟨j1', j2', ?_, ?_⟩
        · dsimp only at hq; grind
        · grind
        · intro p
          dsimp only
          rw [List.take_succ_eq_append_getElem hiq', List.mem_append, ← or_assoc, ← j3']
          exact ⟨.inl, fun h => h.elim id fun h => by rw [List.mem_singleton.mp h]; assumption⟩
        · dsimp only; omega
    · rintro J9_0 u' h' tk' J9_4 F1' N1'
      refine cps fun Pz kz => ?_
      obtain ⟨fv', fs', n'⟩ := J9_0
      obtain ⟨j1', j2', j3', j4'⟩ := J9_4
      refine kz ?_
      clear kz Pz
      dsimp only at j1' j2' j3' j4' N1'
      k_steps
      have hlw := dws.length
      rw [List.length_map] at hlw
      rw [hlw, List.take_length] at j3'
      refine Aft.intro (fv', fs', n') (by assumption) (by assumption) (fun q hq => ?_) (fun q hq => ?_) hown (fun _ h => nomatch h) (by walk_at "names stay") ⟨j1', j2', ?_, ?_⟩
      · dsimp only at hq; grind
      · grind
      · intro p
        dsimp only
        rw [List.take_succ_eq_append_getElem hiq, j3', j3, ex_snoc]
      · dsimp only
        rw [List.take_succ_eq_append_getElem hiq, List.map_append, List.sum_append]
        simp only [List.map_cons, List.map_nil, List.sum_cons, List.sum_nil]
        omega
  · rintro J9_0 u h tk J1 F1 N1
    refine cps fun Pz kz => ?_
    obtain ⟨fv, fs, n⟩ := J9_0
    refine an4 J1 fun j1 j2 j3 j4 => ?_
    clear J1
    refine kz ?_
    clear kz Pz
    dsimp only at j1 j2 j3 j4 N1
    have hlen : qs.length = vs.length := hdl.symm
    rw [← hlen, List.take_length] at j3 j4
    have hrg : ∀ p ∈ fs, 0 ≤ p.2 ∧ p.2 < 100 := fun p hp => by
      obtain ⟨q, hq, hpq⟩ := (j3 p).mp hp
      exact hb q hq p hpq
    have hle := sum_take_le (qs.map List.length) (qs.map List.length).length
    have hlen3 := j1.length
    rw [List.length_map] at hlen3
    k_steps
    with_reducible rename DatAll _ _ _ => d9
    with_reducible rename List.Perm _ _ => perm9
    with_reducible rename Asc _ => asc9
    with_reducible rename News _ _ _ _ => N8
    have d9' := datPs_list d9
    exact hret _ ((_, _) :: news) _ _ (by assumption) (fun q hq => N8 q (by rcases List.mem_cons.mp hq with rfl | hq; exact .head _; exact .tail _ (.tail _ (.tail _ hq)))) ⟨.add (.refl _) rfl, _, .tuple (.head _) (d9'.mono fun _ h => .tail _ h), asc9, fun p => perm9.mem_iff.trans (j3 p)⟩
end
section
/-- the hops that lie behind a row, fewer than so many vias on the way -/
noncomputable def Bh (lk : Int → Hit) : Nat → Wo → (Int × Int) → Prop
  | 0, _, _ => False
  | j + 1, wo, h => ∃ gs g, wo = .via gs ∧ g ∈ gs ∧ ∃ p w, lk g = some (p, w) ∧ ((∃ k, w = .direct k ∧ h = (k, g)) ∨ Bh lk j w h)
theorem bh_succ {lk : Int → Hit} (j : Nat) : ∀ (wo : Wo) (h : Int × Int), Bh lk j wo h → Bh lk (j + 1) wo h := by
  induction j with
  | zero => exact fun _ _ x => x.elim
  | succ j ih =>
    intro wo h x
    obtain ⟨gs, g, e, hg, p, w, hl, x⟩ := x
    exact ⟨gs, g, e, hg, p, w, hl, x.imp id (ih w h)⟩
theorem bh_mono {lk : Int → Hit} {wo : Wo} {h : Int × Int} {j k : Nat} (hjk : j ≤ k) (x : Bh lk j wo h) : Bh lk k wo h := by
  induction hjk with
  | refl => exact x
  | step _ ih => exact bh_succ _ _ _ ih
noncomputable def OneRow (lk : Int → Hit) : Prop := ∀ y y' p w w', lk y = some (p, w) → lk y' = some (p, w') → w = w'
theorem reach_of_bh {lk : Int → Hit} {most : Int} (hc : OneRow lk) (j : Nat) : ∀ (p : Int × Int) (wo : Wo) (a : Int) (ahead : List (Int × Int)) (h : Int × Int), lk a = some (p, wo) → Bh lk j wo h → (∀ i, i < j → ¬ Bh lk i wo h) →
    (∀ q ∈ ahead, ∃ y w gs, lk y = some (q, w) ∧ ¬ Bh lk j w h ∧ w = .via gs) → (ahead.length : Int) + j < most → Reach lk most a ahead h := by
  induction j with
  | zero => exact fun _ _ _ _ _ _ x _ _ _ => x.elim
  | succ j ih =>
    intro p wo a ahead h hl x hmin ha hm
    have hp : p ∉ ahead := fun hq => by
      obtain ⟨y, w, gs, h1, h2, _⟩ := ha p hq
      rw [hc _ _ _ _ _ h1 hl] at h2
      exact h2 x
    have x0 := x
    refine cps fun Pz kz => ?_
    obtain ⟨gs, g, rfl, hg, p', w, hlg, hx⟩ := x
    refine kz ?_
    clear kz Pz
    refine .via hl hp (by omega) hg ?_
    rcases hx with ⟨k, rfl, rfl⟩ | hx
    · refine .direct hlg (fun hq => ?_) (by rw [List.length_append, List.length_singleton]; omega)
      rcases List.mem_append.mp hq with hq | hq
      · refine cps fun Pz kz => ?_
        obtain ⟨y, w, gs', h1, _, h3⟩ := ha p' hq
        refine kz ?_
        clear kz Pz
        rw [hc _ _ _ _ _ h1 hlg] at h3
        cases h3
      · rw [List.mem_singleton.mp hq] at hlg
        have := hc _ _ _ _ _ hlg hl
        cases this
    · refine ih p' w g (ahead ++ [p]) h hlg hx (fun i hi y => hmin (i + 1) (by omega) ⟨gs, g, rfl, hg, p', w, hlg, .inr y⟩) (fun q hq => ?_) (by rw [List.length_append, List.length_singleton]; omega)
      rcases List.mem_append.mp hq with hq | hq
      · refine cps fun Pz kz => ?_
        obtain ⟨y, w', gs', h1, h2, h3⟩ := ha q hq
        refine kz ?_
        clear kz Pz
        exact ⟨y, w', gs', h1, fun z => h2 (bh_succ _ _ _ z), h3⟩
      · rw [List.mem_singleton.mp hq]
        exact ⟨a, _, gs, hl, hmin j (by omega), rfl⟩
theorem bh_of_reach {lk : Int → Hit} {most : Int} {tab : List (Int × Int)} (ht : ∀ y p w, lk y = some (p, w) → p ∈ tab) {a : Int} {ahead : List (Int × Int)} {h : Int × Int} (r : Reach lk most a ahead h) : ahead.Nodup → (∀ q ∈ ahead, q ∈ tab) →
    ∃ p wo, lk a = some (p, wo) ∧ p ∉ ahead ∧ (ahead.length : Int) < most ∧ ((∃ k, wo = .direct k ∧ h = (k, a)) ∨ ∃ j, Bh lk j wo h ∧ (ahead.length : Int) + j < most ∧ ahead.length + j ≤ tab.length) := by
  induction r with
  | direct h1 h2 h3 => intro _ _; exact ⟨_, _, h1, h2, h3, .inl ⟨_, rfl, rfl⟩⟩
  | @via a ahead p gs g q h1 h2 h3 h4 h5 ih =>
    intro hn hs
    have hn' : (ahead ++ [p]).Nodup := by
      rw [List.nodup_append]
      exact ⟨hn, by simp, fun x hx y hy e => by rw [List.mem_singleton.mp hy] at e; exact h2 (e ▸ hx)⟩
    have hs' : ∀ q ∈ ahead ++ [p], q ∈ tab := fun q hq => by
      rcases List.mem_append.mp hq with hq | hq
      · exact hs q hq
      · rw [List.mem_singleton.mp hq]; exact ht _ _ _ h1
    refine cps fun Pz kz => ?_
    obtain ⟨p', w, i1, i2, i3, i4⟩ := ih hn' hs'
    refine kz ?_
    clear kz Pz
    have hlen := len_sub _ _ hn' hs'
    rw [List.length_append, List.length_singleton] at i3 i4 hlen
    refine ⟨p, _, h1, h2, h3, .inr ?_⟩
    rcases i4 with ⟨k, rfl, rfl⟩ | ⟨j, x, y, z⟩
    · exact ⟨1, ⟨gs, g, rfl, h4, p', _, i1, .inl ⟨k, rfl, rfl⟩⟩, by omega, by omega⟩
    · exact ⟨j + 1, ⟨gs, g, rfl, h4, p', w, i1, .inr x⟩, by omega, by omega⟩
theorem least_nat {P : Nat → Prop} {n : Nat} (h : P n) : ∃ k, k ≤ n ∧ P k ∧ ∀ i, i < k → ¬ P i := by
  induction n using Nat.strongRecOn with
  | _ n ih =>
    by_cases hx : ∃ i, i < n ∧ P i
    · refine cps fun Pz kz => ?_
      obtain ⟨i, h1, h2⟩ := hx
      obtain ⟨k, k1, k2, k3⟩ := ih i h1 h2
      refine kz ?_
      clear kz Pz
      exact ⟨k, by omega, k2, k3⟩
    · exact ⟨n, Nat.le_refl _, h, fun i hi hp => hx ⟨i, hi, hp⟩⟩
theorem reach_iff {lk : Int → Hit} {most : Int} {tab : List (Int × Int)} (hc : OneRow lk) (ht : ∀ y p w, lk y = some (p, w) → p ∈ tab) {a : Int} {p : Int × Int} {wo : Wo} (hl : lk a = some (p, wo)) (hw : ∀ k, wo ≠ .direct k) {h : Int × Int} :
    Reach lk most a [] h ↔ ∃ j : Nat, Bh lk j wo h ∧ (j : Int) < most ∧ j ≤ tab.length := by
  constructor
  · intro r
    refine cps fun Pz kz => ?_
    obtain ⟨p', w, h1, _, _, h4⟩ := bh_of_reach ht r List.nodup_nil (fun _ h => nomatch h)
    refine kz ?_
    clear kz Pz
    rw [hl] at h1
    cases h1
    rcases h4 with ⟨k, e, _⟩ | ⟨j, x, y, z⟩
    · exact absurd e (hw k)
    · exact ⟨j, x, by simpa using y, by simpa using z⟩
  · rintro J9_0
    refine cps fun Pz kz => ?_
    obtain ⟨j, x, y, _⟩ := J9_0
    obtain ⟨k, k1, k2, k3⟩ := least_nat (P := fun j => Bh lk j wo h) x
    refine kz ?_
    clear kz Pz
    exact reach_of_bh hc k p wo a [] h hl k2 k3 (fun _ h => nomatch h) (by simp; omega)
theorem reach_direct {lk : Int → Hit} {most : Int} {a : Int} {p : Int × Int} {k : Int} (hl : lk a = some (p, .direct k)) (hm : 0 < most) {h : Int × Int} : Reach lk most a [] h ↔ h = (k, a) := by
  constructor
  · intro r
    cases r with
    | direct h1 _ _ => rw [hl] at h1; cases h1; rfl
    | via h1 _ _ _ _ => rw [hl] at h1; cases h1
  · rintro rfl
    exact .direct hl (fun h => nomatch h) (by simpa using hm)
theorem reach_none {lk : Int → Hit} {most : Int} {a : Int} (hl : lk a = none ∨ most ≤ 0) {h : Int × Int} : ¬ Reach lk most a [] h := by
  intro r
  cases r with
  | direct h1 _ h3 => rcases hl with e | e; rw [e] at h1; cases h1; simp at h3; omega
  | via h1 _ h3 _ _ => rcases hl with e | e; rw [e] at h1; cases h1; simp at h3; omega
end
section
/-- an address from which a direct row is so many vias away -/
noncomputable def RR (lk : Int → Hit) : Nat → Int → Prop
  | 0, g => ∃ p k, lk g = some (p, .direct k)
  | k + 1, g => ∃ p gs g', lk g = some (p, .via gs) ∧ g' ∈ gs ∧ RR lk k g'
theorem rr_same {lk : Int → Hit} (hc : OneRow lk) {y g : Int} {p : Int × Int} {w w' : Wo} (h1 : lk y = some (p, w)) (h2 : lk g = some (p, w')) : ∀ k, RR lk k y → RR lk k g
  | 0, ⟨q, d, h⟩ => by
    rw [h1] at h; cases h
    have := hc _ _ _ _ _ h1 h2
    subst this
    exact ⟨_, _, h2⟩
  | k + 1, ⟨q, gs, g', h, h3, h4⟩ => by
    rw [h1] at h; cases h
    have := hc _ _ _ _ _ h1 h2
    subst this
    exact ⟨_, _, _, h2, h3, h4⟩
theorem bh_rr {lk : Int → Hit} : ∀ (j : Nat) {a : Int} {p : Int × Int} {wo : Wo}, lk a = some (p, wo) → ((∃ h, Bh lk j wo h) ↔ ∃ k, 1 ≤ k ∧ k ≤ j ∧ RR lk k a)
  | 0, a, p, wo, hl => ⟨fun ⟨_, x⟩ => x.elim, fun ⟨k, h1, h2, _⟩ => by omega⟩
  | j + 1, a, p, wo, hl => by
    constructor
    · rintro ⟨h, gs, g, rfl, hg, p', w, hlg, x⟩
      rcases x with ⟨k, rfl, rfl⟩ | x
      · exact ⟨1, by omega, by omega, p, gs, g, hl, hg, p', k, hlg⟩
      · obtain ⟨k, k1, k2, k3⟩ := (bh_rr j hlg).mp ⟨h, x⟩
        exact ⟨k + 1, by omega, by omega, p, gs, g, hl, hg, k3⟩
    · rintro ⟨k, k1, k2, k3⟩
      obtain ⟨k, rfl⟩ : ∃ i, k = i + 1 := ⟨k - 1, by omega⟩
      obtain ⟨p', gs, g, hl', hg, hr⟩ := k3
      rw [hl] at hl'; cases hl'
      cases k with
      | zero =>
        obtain ⟨p'', d, hlg⟩ := hr
        exact ⟨(d, g), gs, g, rfl, hg, p'', _, hlg, .inl ⟨d, rfl, rfl⟩⟩
      | succ k =>
        have hr0 := hr
        obtain ⟨p'', gs', g', hlg, hg', hr'⟩ := hr
        obtain ⟨h, x⟩ := (bh_rr j hlg).mpr ⟨k + 1, by omega, by omega, hr0⟩
        exact ⟨h, gs, g, rfl, hg, p'', _, hlg, .inr x⟩
theorem turn_none {lk : Int → Hit} : ∀ (line : List Int) (seen : List (Int × Int)) (later : List Int), turnGo lk line seen later = none → ∃ g ∈ line, RR lk 0 g
  | [], seen, later, h => by cases h
  | g :: r, seen, later, h => by
    have up : ∀ {s l}, turnGo lk r s l = none → ∃ g' ∈ g :: r, RR lk 0 g' := fun h => let ⟨g', h1, h2⟩ := turn_none r _ _ h; ⟨g', .tail _ h1, h2⟩
    rw [turnGo] at h
    cases hg : lk g with
    | none => rw [hg] at h; exact up h
    | some pw =>
      obtain ⟨p, wo⟩ := pw
      rw [hg] at h
      dsimp only at h
      by_cases hp : p ∈ seen
      · rw [if_pos hp] at h; exact up h
      · rw [if_neg hp] at h
        cases wo with
        | via gs => exact up h
        | sink => exact up h
        | direct k => exact ⟨g, .head _, p, k, hg⟩
structure TurnOk (lk : Int → Hit) (line : List Int) (seen : List (Int × Int)) (later : List Int) (s' : List (Int × Int)) (l' : List Int) : Prop where
  keepS : ∀ q ∈ seen, q ∈ s'
  keepL : ∀ x ∈ later, x ∈ l'
  fromL : ∀ x ∈ l', x ∈ later ∨ ∃ g ∈ line, ∃ p gs, lk g = some (p, .via gs) ∧ x ∈ gs
  fromS : ∀ q ∈ s', q ∈ seen ∨ ∃ g ∈ line, ∃ wo, lk g = some (q, wo)
  all : ∀ g ∈ line, ∀ p wo, lk g = some (p, wo) → p ∈ seen ∨ ((∀ k, wo ≠ .direct k) ∧ ∀ gs, wo = .via gs → ∀ x ∈ gs, x ∈ l')
  nod : seen.Nodup → s'.Nodup
  grow : seen.length ≤ s'.length ∧ (l'.length ≠ later.length → seen.length < s'.length)
theorem turn_some {lk : Int → Hit} (hc : OneRow lk) : ∀ (line : List Int) (seen : List (Int × Int)) (later : List Int) {s' : List (Int × Int)} {l' : List Int}, turnGo lk line seen later = some (s', l') → TurnOk lk line seen later s' l'
  | [], seen, later, s', l', h => by
    cases h
    exact ⟨fun _ h => h, fun _ h => h, fun _ h => .inl h, fun _ h => .inl h, (fun _ h => nomatch h), fun h => h, Nat.le_refl _, fun h => absurd rfl h⟩
  | g :: r, seen, later, s', l', h => by
    rw [turnGo] at h
    cases hg : lk g with
    | none =>
      rw [hg] at h
      have T := turn_some hc r seen later h
      exact ⟨T.keepS, T.keepL, fun x hx => (T.fromL x hx).imp id fun ⟨a, b, c⟩ => ⟨a, .tail _ b, c⟩, fun x hx => (T.fromS x hx).imp id fun ⟨a, b, c⟩ => ⟨a, .tail _ b, c⟩, fun y hy p wo hl => by
        rcases List.mem_cons.mp hy with rfl | hy
        · rw [hg] at hl; cases hl
        · exact T.all y hy p wo hl, T.nod, T.grow⟩
    | some pw =>
      obtain ⟨p, wo⟩ := pw
      rw [hg] at h
      dsimp only at h
      by_cases hp : p ∈ seen
      · rw [if_pos hp] at h
        have T := turn_some hc r seen later h
        exact ⟨T.keepS, T.keepL, fun x hx => (T.fromL x hx).imp id fun ⟨a, b, c⟩ => ⟨a, .tail _ b, c⟩, fun x hx => (T.fromS x hx).imp id fun ⟨a, b, c⟩ => ⟨a, .tail _ b, c⟩, fun y hy p' wo' hl => by
          rcases List.mem_cons.mp hy with rfl | hy
          · rw [hg] at hl; cases hl; exact .inl hp
          · exact T.all y hy p' wo' hl, T.nod, T.grow⟩
      · rw [if_neg hp] at h
        have main : ∀ gs, (∀ k, wo ≠ .direct k) → (∀ gs', wo = .via gs' → gs' = gs) → (gs = [] ∨ wo = .via gs) → turnGo lk r (seen ++ [p]) (later ++ gs) = some (s', l') → TurnOk lk (g :: r) seen later s' l' := by
          intro gs n1 n2 n3 h
          have T := turn_some hc r (seen ++ [p]) (later ++ gs) h
          have hgs : ∀ x ∈ gs, x ∈ l' := fun x hx => T.keepL x (List.mem_append_right _ hx)
          refine ⟨fun q hq => T.keepS q (List.mem_append_left _ hq), fun x hx => T.keepL x (List.mem_append_left _ hx), fun x hx => ?_, fun q hq => ?_, fun y hy p' wo' hl => ?_, fun hn => T.nod ?_, ?_, fun _ => ?_⟩
          · rcases T.fromL x hx with h | ⟨a, b, c⟩
            · rcases List.mem_append.mp h with h | h
              · exact .inl h
              · rcases n3 with e | e
                · rw [e] at h; cases h
                · exact .inr ⟨g, .head _, p, gs, by rw [hg, e], h⟩
            · exact .inr ⟨a, .tail _ b, c⟩
          · rcases T.fromS q hq with h | ⟨a, b, c⟩
            · rcases List.mem_append.mp h with h | h
              · exact .inl h
              · rw [List.mem_singleton.mp h]; exact .inr ⟨g, .head _, wo, hg⟩
            · exact .inr ⟨a, .tail _ b, c⟩
          · have here : ∀ wo'', wo'' = wo → ((∀ k, wo'' ≠ .direct k) ∧ ∀ gs', wo'' = .via gs' → ∀ x ∈ gs', x ∈ l') := by
              rintro _ rfl
              exact ⟨n1, fun gs' e x hx => hgs x (n2 gs' e ▸ hx)⟩
            rcases List.mem_cons.mp hy with rfl | hy
            · rw [hg] at hl; cases hl; exact .inr (here _ rfl)
            · rcases T.all y hy p' wo' hl with h | h
              · rcases List.mem_append.mp h with h | h
                · exact .inl h
                · rw [List.mem_singleton.mp h] at hl
                  exact .inr (here _ (hc _ _ _ _ _ hl hg))
              · exact .inr h
          · exact List.nodup_append.mpr ⟨hn, by simp, fun x hx y hy => by rw [List.mem_singleton.mp hy]; rintro rfl; exact hp hx⟩
          · have := T.grow.1; rw [List.length_append, List.length_singleton] at this; omega
          · have := T.grow.1; rw [List.length_append, List.length_singleton] at this; omega
        cases wo with
        | via gs => exact main gs (fun k => by intro e; cases e) (fun gs' e => by cases e; rfl) (.inr rfl) h
        | sink => exact main [] (fun k => by intro e; cases e) (fun gs' e => by cases e) (.inl rfl) (by rw [List.append_nil]; exact h)
        | direct k => cases h
structure Inv (lk : Int → Hit) (a : Int) (line : List Int) (seen : List (Int × Int)) (d : Nat) : Prop where
  S : ∀ g ∈ line, ∀ k, RR lk k g → RR lk (k + d) a
  W : ∀ K, RR lk K a → (∀ i, i < K → ¬ RR lk i a) → d ≤ K ∧ ∃ g ∈ line, RR lk (K - d) g
  Q : ∀ p ∈ seen, ∃ e, e < d ∧ ∀ y wo k, lk y = some (p, wo) → RR lk k y → RR lk (k + e) a
theorem inv_next {lk : Int → Hit} (hc : OneRow lk) {a : Int} {line l' : List Int} {seen s' : List (Int × Int)} {d : Nat} (I : Inv lk a line seen d) (T : TurnOk lk line seen [] s' l') : Inv lk a l' s' (d + 1) where
  S := fun x hx k hr => by
    rcases T.fromL x hx with h | ⟨g, hg, p, gs, hl, hxg⟩
    · cases h
    · have := I.S g hg (k + 1) ⟨p, gs, x, hl, hxg, hr⟩
      rw [show k + (d + 1) = k + 1 + d by omega]; exact this
  W := fun K hK hmin => by
    obtain ⟨h1, g, hg, hr⟩ := I.W K hK hmin
    have seenNo : ∀ p wo k, lk g = some (p, wo) → RR lk k g → k + d ≤ K → p ∉ seen := fun p wo k hl hr' hk hp => by
      obtain ⟨e, he, hq⟩ := I.Q p hp
      exact hmin (k + e) (by omega) (hq g wo k hl hr')
    obtain ⟨j, hj⟩ : ∃ j, K - d = j := ⟨_, rfl⟩
    rw [hj] at hr
    replace hj : K = j + d := (Nat.sub_eq_iff_eq_add h1).mp hj
    cases j with
    | zero =>
      have hr0 := hr
      obtain ⟨p, k, hl⟩ := hr
      rcases T.all g hg p _ hl with h | h
      · exact absurd h (seenNo p _ 0 hl hr0 (by omega))
      · exact absurd rfl (h.1 k)
    | succ j =>
      have hr0 := hr
      obtain ⟨p, gs, g', hl, hg', hr'⟩ := hr
      rcases T.all g hg p _ hl with h | h
      · exact absurd h (seenNo p _ (j + 1) hl hr0 (by omega))
      · exact ⟨by omega, g', h.2 gs rfl g' hg', by rw [Nat.sub_eq_of_eq_add (show K = j + (d + 1) by omega)]; exact hr'⟩
  Q := fun q hq => by
    rcases T.fromS q hq with h | ⟨g, hg, wo, hl⟩
    · obtain ⟨e, he, x⟩ := I.Q q h
      exact ⟨e, by omega, x⟩
    · exact ⟨d, by omega, fun y wo' k hy hr => I.S g hg k (rr_same hc hy hl k hr)⟩
theorem depth_val {lk : Int → Hit} {most : Int} (hc : OneRow lk) {a : Int} {line : List Int} {seen : List (Int × Int)} {d : Int} {r : Option Int} (D : DepthR lk most line seen d r) : ∀ dn : Nat, d = dn → Inv lk a line seen dn →
    (∀ K : Nat, RR lk K a → (∀ i, i < K → ¬ RR lk i a) → r = if (K : Int) < most then some (K : Int) else none) ∧ ((∀ K, ¬ RR lk K a) → r = none) := by
  induction D with
  | stop h =>
    rintro dn rfl I
    refine ⟨fun K hK hmin => ?_, fun _ => rfl⟩
    obtain ⟨h1, g, hg, _⟩ := I.W K hK hmin
    rcases h with rfl | h
    · cases hg
    · rw [if_neg (by omega)]
  | hit h1 h2 h3 =>
    rintro dn rfl I
    obtain ⟨g, hg, hr⟩ := turn_none _ _ _ h3
    have ha := I.S g hg 0 hr
    rw [Nat.zero_add] at ha
    refine ⟨fun K hK hmin => ?_, fun hno => absurd ha (hno _)⟩
    have hd := (I.W K hK hmin).1
    have : K = dn := by
      rcases Nat.lt_or_ge dn K with h | h
      · exact absurd ha (hmin dn h)
      · omega
    rw [this, if_pos h2]
  | next h1 h2 h3 _ ih =>
    rintro dn rfl I
    exact ih (dn + 1) (by omega) (inv_next hc I (turn_some hc _ _ _ h3))
theorem depth_ex {lk : Int → Hit} {most : Int} {tab : List (Int × Int)} (hc : OneRow lk) (ht : ∀ y p w, lk y = some (p, w) → p ∈ tab) (n : Nat) : ∀ (line : List Int) (seen : List (Int × Int)) (d : Int), seen.Nodup → (∀ p ∈ seen, p ∈ tab) →
    2 * (tab.length - seen.length) + (if line = [] then 0 else 1) ≤ n → ∃ r, DepthR lk most line seen d r := by
  induction n with
  | zero =>
    intro line seen d hn hs hm
    by_cases h1 : line = []
    · exact ⟨none, .stop (.inl h1)⟩
    · rw [if_neg h1] at hm
      exact absurd hm (Nat.not_succ_le_zero _)
  | succ n ih =>
    intro line seen d hn hs hm
    by_cases h1 : line = []
    · exact ⟨none, .stop (.inl h1)⟩
    · by_cases h2 : d < most
      · rw [if_neg h1] at hm
        cases h3 : turnGo lk line seen [] with
        | none => exact ⟨_, .hit h1 h2 h3⟩
        | some sl =>
          obtain ⟨s', l'⟩ := sl
          have T := turn_some hc line seen [] h3
          have hs' : ∀ p ∈ s', p ∈ tab := fun p hp => by
            rcases T.fromS p hp with h | ⟨g, _, wo, hl⟩
            · exact hs p h
            · exact ht _ _ _ hl
          have hz := len_sub _ _ (T.nod hn) hs'
          have g1 := T.grow.1
          obtain ⟨r, hr⟩ := ih l' s' (d + 1) (T.nod hn) hs' (by
            by_cases hl : l' = []
            · rw [if_pos hl]
              have q := Nat.sub_le_sub_left g1 tab.length
              generalize tab.length - s'.length = u at *
              generalize tab.length - seen.length = v at *
              omega
            · rw [if_neg hl]
              have := T.grow.2 (by simp only [List.length_nil]; intro e; exact hl (List.length_eq_zero_iff.mp e))
              have q := Nat.sub_lt_sub_left (Nat.lt_of_lt_of_le this hz) this
              generalize tab.length - s'.length = u at *
              generalize tab.length - seen.length = v at *
              omega)
          exact ⟨r, .next h1 h2 h3 hr⟩
      · exact ⟨none, .stop (.inr (by omega))⟩
theorem inv_zero {lk : Int → Hit} (a : Int) : Inv lk a [a] [] 0 where
  S := fun g hg k hr => by rw [List.mem_singleton.mp hg] at hr; exact hr
  W := fun K hK _ => ⟨Nat.zero_le _, a, .head _, hK⟩
  Q := fun _ h => nomatch h
end
section
/-- within range: an address of three bits, a length -/
noncomputable def Cn (x l : Int) : Prop := 0 ≤ x ∧ x < 8 ∧ 0 ≤ l ∧ l ≤ 3 ∧ topZ x l = x
theorem topZ_F : ∀ x : Fin 8, ∀ l k : Fin 4, 0 ≤ topZ (x.val : Int) (l.val : Int) ∧ topZ (x.val : Int) (l.val : Int) < 8 ∧ topZ (x.val : Int) 0 = 0 ∧ topZ (x.val : Int) 3 = x.val ∧
    (k ≤ l → topZ (topZ (x.val : Int) (l.val : Int)) (k.val : Int) = topZ (x.val : Int) (k.val : Int)) ∧ (k < l → bitZ (topZ (x.val : Int) (l.val : Int)) (k.val : Int) = bitZ (x.val : Int) (k.val : Int)) := by decide +kernel
theorem topZ_Z {x l k : Int} (hx : 0 ≤ x) (hx2 : x < 8) (hl : 0 ≤ l) (hl2 : l ≤ 3) (hk : 0 ≤ k) (hk2 : k ≤ 3) : 0 ≤ topZ x l ∧ topZ x l < 8 ∧ topZ x 0 = 0 ∧ topZ x 3 = x ∧ (k ≤ l → topZ (topZ x l) k = topZ x k) ∧ (k < l → bitZ (topZ x l) k = bitZ x k) := by
  have h := topZ_F ⟨x.toNat, by omega⟩ ⟨l.toNat, by omega⟩ ⟨k.toNat, by omega⟩
  simp only [Int.toNat_of_nonneg hx, Int.toNat_of_nonneg hl, Int.toNat_of_nonneg hk, Fin.mk_le_mk, Fin.mk_lt_mk] at h
  refine ⟨h.1, h.2.1, h.2.2.1, h.2.2.2.1, fun e => h.2.2.2.2.1 (by omega), fun e => h.2.2.2.2.2 (by omega)⟩
theorem shared_F : ∀ x y : Fin 8, ∀ l k : Fin 4, topZ (x.val : Int) (l.val : Int) = x.val → topZ (y.val : Int) (k.val : Int) = y.val → 
    topZ (x.val : Int) (sharedZ x.val l.val y.val k.val) = topZ (y.val : Int) (sharedZ x.val l.val y.val k.val) ∧
    (sharedZ x.val l.val y.val k.val < l.val → sharedZ x.val l.val y.val k.val < k.val → bitZ (x.val : Int) (sharedZ x.val l.val y.val k.val) ≠ bitZ (y.val : Int) (sharedZ x.val l.val y.val k.val)) := by decide +kernel
theorem shared_Z {x l y k : Int} (h1 : Cn x l) (h2 : Cn y k) : topZ x (sharedZ x l y k) = topZ y (sharedZ x l y k) ∧ (sharedZ x l y k < l → sharedZ x l y k < k → bitZ x (sharedZ x l y k) ≠ bitZ y (sharedZ x l y k)) ∧
    0 ≤ sharedZ x l y k ∧ sharedZ x l y k ≤ l ∧ sharedZ x l y k ≤ k := by
  refine cps fun Pz kz => ?_
  obtain ⟨a1, a2, a3, a4, a5⟩ := h1
  obtain ⟨b1, b2, b3, b4, b5⟩ := h2
  refine kz ?_
  clear kz Pz
  have h := shared_F ⟨x.toNat, by omega⟩ ⟨y.toNat, by omega⟩ ⟨l.toNat, by omega⟩ ⟨k.toNat, by omega⟩
  simp only [Int.toNat_of_nonneg a1, Int.toNat_of_nonneg a3, Int.toNat_of_nonneg b1, Int.toNat_of_nonneg b3] at h
  exact ⟨(h a5 b5).1, (h a5 b5).2, sharedZ_bd a3 b3⟩

/-- the worth that a tree holds at a prefix -/
noncomputable def entry : Tree → Int → Int → Dat
  | .nil, _, _ => .none
  | .node x1 l1 w1 a b, x, l => if x = x1 ∧ l = l1 then w1 else if l1 < l ∧ topZ x l1 = x1 then (if bitZ x l1 = 0 then entry a x l else entry b x l) else .none
/-- a tree below a node -/
noncomputable def Below' (x l k : Int) : Tree → Prop
  | .nil => True
  | .node x1 l1 _ _ _ => l < l1 ∧ topZ x1 l = x ∧ bitZ x1 l = k
noncomputable def WF : Tree → Prop
  | .nil => True
  | .node x l _ a b => Cn x l ∧ Below' x l 0 a ∧ Below' x l 1 b ∧ WF a ∧ WF b
theorem entry_small {t : Tree} {x l k x' l' : Int} (h : Below' x l k t) (hl : l' ≤ l) : entry t x' l' = .none := by
  cases t with
  | nil => rfl
  | node x1 l1 w a b =>
    obtain ⟨h1, h2, h3⟩ := h
    unfold entry
    rw [if_neg (by rintro ⟨_, e⟩; omega), if_neg (by rintro ⟨e, _⟩; omega)]
theorem entry_off {t : Tree} {x l k x' l' : Int} (hl0 : 0 ≤ l) (h : Below' x l k t) (hw : WF t) (hx' : Cn x' l') (hb : bitZ x' l ≠ k) : entry t x' l' = .none := by
  cases t with
  | nil => rfl
  | node x1 l1 w a b =>
    refine cps fun Pz kz => ?_
    obtain ⟨h1, h2, h3⟩ := h
    obtain ⟨⟨c1, c2, c3, c4, c5⟩, _⟩ := hw
    obtain ⟨d1, d2, d3, d4, d5⟩ := hx'
    refine kz ?_
    clear kz Pz
    unfold entry
    rw [if_neg (by rintro ⟨rfl, rfl⟩; exact hb h3), if_neg]
    rintro ⟨e1, e2⟩
    have := (topZ_Z d1 d2 c3 c4 hl0 (by omega)).2.2.2.2.2 h1
    rw [e2, h3] at this
    exact hb this.symm
/-- the longest match -/
noncomputable def best (f : Dat) (e : Int → Dat) (y : Int) : Dat := better (better (better (better f (topZ y 0) 0 (e 0)) (topZ y 1) 1 (e 1)) (topZ y 2) 2 (e 2)) (topZ y 3) 3 (e 3)
theorem best_nil (f : Dat) (e : Int → Dat) (y : Int) (h0 : e 0 = .none) (h1 : e 1 = .none) (h2 : e 2 = .none) (h3 : e 3 = .none) : best f e y = f := by
  unfold best
  rw [h0, h1, h2, h3]
  rfl
theorem best_eq {f : Dat} {e e' : Int → Dat} {y : Int} (h0 : e 0 = e' 0) (h1 : e 1 = e' 1) (h2 : e 2 = e' 2) (h3 : e 3 = e' 3) : best f e y = best f e' y := by
  unfold best
  rw [h0, h1, h2, h3]
theorem best_step {f w : Dat} {e e' : Int → Dat} {y l1 : Int} (hl : l1 = 0 ∨ l1 = 1 ∨ l1 = 2 ∨ l1 = 3) (h1 : ∀ l, l < l1 → e l = .none) (h2 : e l1 = w) (h3 : ∀ l, l1 < l → l ≤ 3 → e l = e' l) (h4 : ∀ l, l ≤ l1 → e' l = .none) :
    best f e y = best (better f (topZ y l1) l1 w) e' y := by
  unfold best
  rcases hl with rfl | rfl | rfl | rfl
  · rw [h2, h3 1 (by omega) (by omega), h3 2 (by omega) (by omega), h3 3 (by omega) (by omega), h4 0 (by omega)]; rfl
  · rw [h1 0 (by omega), h2, h3 2 (by omega) (by omega), h3 3 (by omega) (by omega), h4 0 (by omega), h4 1 (by omega)]; rfl
  · rw [h1 0 (by omega), h1 1 (by omega), h2, h3 3 (by omega) (by omega), h4 0 (by omega), h4 1 (by omega), h4 2 (by omega)]; rfl
  · rw [h1 0 (by omega), h1 1 (by omega), h1 2 (by omega), h2, h4 0 (by omega), h4 1 (by omega), h4 2 (by omega), h4 3 (by omega)]; rfl
theorem look_best : ∀ (t : Tree) (f : Dat) (y : Int), WF t → 0 ≤ y → y < 8 → lookGo y f t = best f (fun l => entry t (topZ y l) l) y
  | .nil, f, y, _, _, _ => (best_nil _ _ _ rfl rfl rfl rfl).symm
  | .node x1 l1 w a b, f, y, hw, h0, h8 => by
    refine cps fun Pz kz => ?_
    obtain ⟨⟨c1, c2, c3, c4, c5⟩, hA, hB, wA, wB⟩ := hw
    refine kz ?_
    clear kz Pz
    have l4 : l1 = 0 ∨ l1 = 1 ∨ l1 = 2 ∨ l1 = 3 := by omega
    have tt : ∀ l, 0 ≤ l → l ≤ 3 → l1 ≤ l → topZ (topZ y l) l1 = topZ y l1 := fun l h1 h2 h3 => (topZ_Z h0 h8 h1 h2 c3 c4).2.2.2.2.1 h3
    have bb : ∀ l, 0 ≤ l → l ≤ 3 → l1 < l → bitZ (topZ y l) l1 = bitZ y l1 := fun l h1 h2 h3 => (topZ_Z h0 h8 h1 h2 c3 c4).2.2.2.2.2 h3
    have lo : ∀ l, l < l1 → entry (.node x1 l1 w a b) (topZ y l) l = .none := fun l hl => by
      rw [entry, if_neg (by rintro ⟨_, e⟩; omega), if_neg (by rintro ⟨e, _⟩; omega)]
    by_cases ht : topZ y l1 = x1
    · have at1 : entry (.node x1 l1 w a b) (topZ y l1) l1 = w := by rw [entry, if_pos ⟨ht, rfl⟩]
      have hi : ∀ l, l1 < l → l ≤ 3 → entry (.node x1 l1 w a b) (topZ y l) l = if bitZ y l1 = 0 then entry a (topZ y l) l else entry b (topZ y l) l := fun l h1 h2 => by
        rw [entry, if_neg (by rintro ⟨_, e⟩; omega), if_pos ⟨h1, by rw [tt l (by omega) h2 (by omega), ht]⟩, bb l (by omega) h2 h1]
      rw [lookGo, if_pos ht]
      by_cases h3 : l1 = 3
      · rw [if_pos h3, best_step (e' := fun _ => Dat.none) l4 lo at1 (fun l h1 h2 => by omega) (fun _ _ => rfl), best_nil _ _ _ rfl rfl rfl rfl, ht]
      · rw [if_neg h3]
        by_cases hb : bitZ y l1 = 0
        · rw [if_pos hb, look_best a _ y wA h0 h8, best_step (e' := fun l => entry a (topZ y l) l) l4 lo at1 (fun l h1 h2 => by rw [hi l h1 h2, if_pos hb]) (fun l hl => entry_small hA hl), ht]
        · rw [if_neg hb, look_best b _ y wB h0 h8, best_step (e' := fun l => entry b (topZ y l) l) l4 lo at1 (fun l h1 h2 => by rw [hi l h1 h2, if_neg hb]) (fun l hl => entry_small hB hl), ht]
    · rw [lookGo, if_neg ht]
      have all : ∀ l, 0 ≤ l → l ≤ 3 → entry (.node x1 l1 w a b) (topZ y l) l = .none := fun l h1 h2 => by
        rw [entry, if_neg (by rintro ⟨e1, e2⟩; rw [e2] at e1; exact ht e1)]
        by_cases hl : l1 < l
        · rw [if_neg (by rintro ⟨_, e⟩; rw [tt l h1 h2 (by omega)] at e; exact ht e)]
        · rw [if_neg (by rintro ⟨e, _⟩; exact hl e)]
      exact (best_nil f (fun l => entry (.node x1 l1 w a b) (topZ y l) l) y (all 0 (by omega) (by omega)) (all 1 (by omega) (by omega)) (all 2 (by omega) (by omega)) (all 3 (by omega) (by omega))).symm
theorem old_none {x1 l1 x' l' k x0 : Int} {w : Dat} {a b : Tree} (hc : Cn x1 l1) (hx : Cn x' l') (hk : 0 ≤ k) (hk2 : k < l1) (ht : topZ x1 k = x0) (h : l' ≤ k ∨ topZ x' k ≠ x0 ∨ bitZ x' k ≠ bitZ x1 k) : entry (.node x1 l1 w a b) x' l' = .none := by
  refine cps fun Pz kz => ?_
  obtain ⟨c1, c2, c3, c4, c5⟩ := hc
  obtain ⟨d1, d2, d3, d4, d5⟩ := hx
  refine kz ?_
  clear kz Pz
  have t1 := topZ_Z d1 d2 c3 c4 hk (by omega)
  rw [entry, if_neg, if_neg]
  · rintro ⟨e1, e2⟩
    rcases h with h | h | h
    · omega
    · have := t1.2.2.2.2.1 (by omega)
      rw [e2, ht] at this
      exact h this.symm
    · have := t1.2.2.2.2.2 hk2
      rw [e2] at this
      exact h this.symm
  · rintro J9_0
    refine cps fun Pz kz => ?_
    obtain ⟨rfl, rfl⟩ := J9_0
    refine kz ?_
    clear kz Pz
    rcases h with h | h | h
    · omega
    · exact h ht
    · exact h rfl
theorem put_spec {x l : Int} {w : Dat} (hc : Cn x l) : ∀ t, WF t → WF (treePut x l w t) ∧ (∀ x' l', Cn x' l' → entry (treePut x l w t) x' l' = if x' = x ∧ l' = l then w else entry t x' l') ∧
    (∀ x0 l0 k, 0 ≤ l0 → Below' x0 l0 k t → l0 < l → topZ x l0 = x0 → bitZ x l0 = k → Below' x0 l0 k (treePut x l w t))
  | .nil, _ => ⟨⟨hc, trivial, trivial, trivial, trivial⟩, fun x' l' _ => by
      by_cases h : x' = x ∧ l' = l
      · simp [entry, treePut, h]
      · simp [entry, treePut, h], fun x0 l0 k h0 _ h1 h2 h3 => ⟨h1, h2, h3⟩⟩
  | .node x1 l1 w1 a b, hw => by
    have hw0 := hw
    refine cps fun Pz kz => ?_
    obtain ⟨hc1, hA, hB, wA, wB⟩ := hw
    have hs := shared_Z hc1 hc
    have hc1' := hc1
    have hc' := hc
    obtain ⟨c1, c2, c3, c4, c5⟩ := hc1
    obtain ⟨d1, d2, d3, d4, d5⟩ := hc
    refine kz ?_
    clear kz Pz
    obtain ⟨t', ht⟩ : ∃ t', treePut x l w (.node x1 l1 w1 a b) = t' := ⟨_, rfl⟩
    rw [ht]
    rw [treePut] at ht
    generalize sharedZ x1 l1 x l = m at *
    refine cps fun Pz kz => ?_
    obtain ⟨s1, s2, s3, s4, s5⟩ := hs
    refine kz ?_
    clear kz Pz
    by_cases hA1 : m = l1 ∧ m = l
    · refine cps fun Pz kz => ?_
      obtain ⟨rfl, rfl⟩ := hA1
      rw [c5, d5] at s1
      subst s1
      refine kz ?_
      clear kz Pz
      rw [if_pos ⟨rfl, rfl⟩] at ht
      subst ht
      refine ⟨⟨hc1', hA, hB, wA, wB⟩, fun x' l' _ => ?_, fun x0 l0 k _ h _ _ _ => h⟩
      rw [entry, entry]
      by_cases h : x' = x1 ∧ l' = m
      · rw [if_pos h, if_pos h]
      · rw [if_neg h, if_neg h, if_neg h]
    · rw [if_neg hA1] at ht
      by_cases hB1 : m = l1
      · subst hB1
        rw [if_pos rfl] at ht
        rw [c5] at s1
        have hlt : m < l := by omega
        have ia := put_spec (w := w) hc' a wA
        have ib := put_spec (w := w) hc' b wB
        have hne : ¬ (x = x1 ∧ l = m) := by rintro ⟨_, e⟩; omega
        by_cases hb : bitZ x m = 0
        · rw [if_pos hb] at ht
          subst ht
          refine ⟨⟨hc1', ia.2.2 _ _ _ c3 hA hlt s1.symm hb, hB, ia.1, wB⟩, fun x' l' hx' => ?_, fun x0 l0 k _ h _ _ _ => h⟩
          rw [entry, entry]
          by_cases h : x' = x ∧ l' = l
          · refine cps fun Pz kz => ?_
            obtain ⟨rfl, rfl⟩ := h
            refine kz ?_
            clear kz Pz
            rw [if_neg hne, if_pos ⟨hlt, s1.symm⟩, if_pos hb, ia.2.1 _ _ hx', if_pos ⟨rfl, rfl⟩, if_pos ⟨rfl, rfl⟩]
          · rw [ia.2.1 _ _ hx', if_neg h, if_neg h]
        · rw [if_neg hb] at ht
          subst ht
          have hb1 : bitZ x m = 1 := (bitZ_01 d1 d2 c3 (by omega)).resolve_left hb
          refine ⟨⟨hc1', hA, ib.2.2 _ _ _ c3 hB hlt s1.symm hb1, wA, ib.1⟩, fun x' l' hx' => ?_, fun x0 l0 k _ h _ _ _ => h⟩
          rw [entry, entry]
          by_cases h : x' = x ∧ l' = l
          · refine cps fun Pz kz => ?_
            obtain ⟨rfl, rfl⟩ := h
            refine kz ?_
            clear kz Pz
            rw [if_neg hne, if_pos ⟨hlt, s1.symm⟩, if_neg hb, ib.2.1 _ _ hx', if_pos ⟨rfl, rfl⟩, if_pos ⟨rfl, rfl⟩]
          · rw [ib.2.1 _ _ hx', if_neg h, if_neg h]
      · rw [if_neg hB1] at ht
        have hl1 : m < l1 := by omega
        have b01 : bitZ x1 m = 0 ∨ bitZ x1 m = 1 := bitZ_01 c1 c2 s3 (by omega)
        by_cases hC1 : m = l
        · subst hC1
          rw [if_pos rfl] at ht
          rw [d5] at s1
          by_cases hb : bitZ x1 m = 0
          · rw [if_pos hb] at ht
            subst ht
            refine ⟨⟨hc', ⟨hl1, s1, hb⟩, trivial, hw0, trivial⟩, fun x' l' hx' => ?_, fun x0 l0 k _ _ h1 h2 h3 => ⟨h1, h2, h3⟩⟩
            rw [entry]
            by_cases h : x' = x ∧ l' = m
            · rw [if_pos h, if_pos h]
            · rw [if_neg h, if_neg h]
              by_cases h1 : m < l' ∧ topZ x' m = x
              · rw [if_pos h1]
                by_cases h2 : bitZ x' m = 0
                · rw [if_pos h2]
                · rw [if_neg h2, old_none hc1' hx' s3 hl1 s1 (.inr (.inr (by rw [hb]; exact h2)))]; rfl
              · rw [if_neg h1, old_none hc1' hx' s3 hl1 s1]
                by_cases h2 : m < l'
                · exact .inr (.inl fun e => h1 ⟨h2, e⟩)
                · exact .inl (by omega)
          · rw [if_neg hb] at ht
            subst ht
            have hb1 := b01.resolve_left hb
            refine ⟨⟨hc', trivial, ⟨hl1, s1, hb1⟩, trivial, hw0⟩, fun x' l' hx' => ?_, fun x0 l0 k _ _ h1 h2 h3 => ⟨h1, h2, h3⟩⟩
            rw [entry]
            by_cases h : x' = x ∧ l' = m
            · rw [if_pos h, if_pos h]
            · rw [if_neg h, if_neg h]
              by_cases h1 : m < l' ∧ topZ x' m = x
              · rw [if_pos h1]
                by_cases h2 : bitZ x' m = 0
                · rw [if_pos h2, old_none hc1' hx' s3 hl1 s1 (.inr (.inr (by rw [h2, hb1]; decide)))]; rfl
                · rw [if_neg h2]
              · rw [if_neg h1, old_none hc1' hx' s3 hl1 s1]
                by_cases h2 : m < l'
                · exact .inr (.inl fun e => h1 ⟨h2, e⟩)
                · exact .inl (by omega)
        · rw [if_neg hC1] at ht
          have hl : m < l := by omega
          have hdiff := s2 hl1 hl
          have e01 : bitZ x m = 0 ∨ bitZ x m = 1 := bitZ_01 d1 d2 s3 (by omega)
          have zz := topZ_Z c1 c2 s3 (by omega) s3 (by omega)
          have hcm : Cn (topZ x1 m) m := ⟨zz.1, zz.2.1, s3, by omega, zz.2.2.2.2.1 (Int.le_refl _)⟩
          have up : ∀ x0 l0 k, 0 ≤ l0 → l0 < l1 ∧ topZ x1 l0 = x0 ∧ bitZ x1 l0 = k → l0 < l → topZ x l0 = x0 → bitZ x l0 = k → l0 < m ∧ topZ (topZ x1 m) l0 = x0 ∧ bitZ (topZ x1 m) l0 = k := by
            rintro x0 l0 k h0 ⟨g1, g2, g3⟩ g4 g5 g6
            have hm : l0 < m := by
              rcases Int.lt_trichotomy l0 m with h | h | h
              · exact h
              · subst h; exact absurd (g3.trans g6.symm) hdiff
              · exfalso
                apply hdiff
                have p1 := (topZ_Z c1 c2 h0 (by omega) s3 (by omega)).2.2.2.2.2 h
                have p2 := (topZ_Z d1 d2 h0 (by omega) s3 (by omega)).2.2.2.2.2 h
                rw [g2] at p1
                rw [g5] at p2
                rw [← p1, ← p2]
            have q := topZ_Z c1 c2 s3 (by omega) h0 (by omega)
            exact ⟨hm, by rw [q.2.2.2.2.1 (by omega), g2], by rw [q.2.2.2.2.2 hm, g3]⟩
          have leaf : WF (.node x l w .nil .nil) := ⟨hc', trivial, trivial, trivial, trivial⟩
          have le : ∀ x' l', entry (.node x l w .nil .nil) x' l' = if x' = x ∧ l' = l then w else .none := fun x' l' => by
            rw [entry]; simp [entry]
          have fork : ∀ x' l', Cn x' l' → ∀ k1 k2, bitZ x1 m = k1 → bitZ x m = k2 →
              (if x' = topZ x1 m ∧ l' = m then Dat.none else if m < l' ∧ topZ x' m = topZ x1 m then (if bitZ x' m = k1 then entry (.node x1 l1 w1 a b) x' l' else if bitZ x' m = k2 then entry (.node x l w .nil .nil) x' l' else .none) else .none) = if x' = x ∧ l' = l then w else entry (.node x1 l1 w1 a b) x' l' := by
            rintro x' l' hx' k1 k2 rfl rfl
            by_cases h : x' = x ∧ l' = l
            · obtain ⟨rfl, rfl⟩ := h
              rw [if_neg (by rintro ⟨_, e⟩; omega), if_pos ⟨hl, s1.symm⟩, if_neg (fun e => hdiff e.symm), if_pos rfl, le, if_pos ⟨rfl, rfl⟩, if_pos ⟨rfl, rfl⟩]
            · rw [if_neg h]
              by_cases h1 : x' = topZ x1 m ∧ l' = m
              · rw [if_pos h1, old_none hc1' hx' s3 hl1 rfl (.inl (by omega))]
              · rw [if_neg h1]
                by_cases h2 : m < l' ∧ topZ x' m = topZ x1 m
                · rw [if_pos h2]
                  by_cases h3 : bitZ x' m = bitZ x1 m
                  · rw [if_pos h3]
                  · rw [if_neg h3, le, if_neg h, old_none hc1' hx' s3 hl1 rfl (.inr (.inr h3))]
                    simp
                · rw [if_neg h2, old_none hc1' hx' s3 hl1 rfl]
                  by_cases h3 : m < l'
                  · exact .inr (.inl fun e => h2 ⟨h3, e⟩)
                  · exact .inl (by omega)
          by_cases hb : bitZ x1 m = 0
          · rw [if_pos hb] at ht
            have hb2 : bitZ x m = 1 := e01.resolve_left (fun e => hdiff (by rw [hb, e]))
            rw [if_neg (by rw [hb2]; decide)] at ht
            subst ht
            refine ⟨⟨hcm, ⟨hl1, rfl, hb⟩, ⟨hl, s1.symm, hb2⟩, hw0, leaf⟩, fun x' l' hx' => ?_, fun x0 l0 k h0 h1 h2 h3 h4 => up x0 l0 k h0 h1 h2 h3 h4⟩
            rw [← fork x' l' hx' 0 1 hb hb2, entry]
            have z01 := bitZ_01 hx'.1 hx'.2.1 s3 (by omega : m < 3)
            rcases z01 with z | z <;> simp [z]
          · rw [if_neg hb] at ht
            have hb1 := b01.resolve_left hb
            have hb2 : bitZ x m = 0 := by rcases e01 with e | e; exact e; exact absurd (hb1.trans e.symm) hdiff
            rw [if_pos hb2] at ht
            subst ht
            refine ⟨⟨hcm, ⟨hl, s1.symm, hb2⟩, ⟨hl1, rfl, hb1⟩, leaf, hw0⟩, fun x' l' hx' => ?_, fun x0 l0 k h0 h1 h2 h3 h4 => up x0 l0 k h0 h1 h2 h3 h4⟩
            rw [← fork x' l' hx' 1 0 hb1 hb2, entry]
            have z01 := bitZ_01 hx'.1 hx'.2.1 s3 (by omega : m < 3)
            rcases z01 with z | z <;> simp [z]
end
section
noncomputable abbrev RowW := (Int × Int) × Wo
noncomputable def treeAll (rs : List RowW) (t : Tree) : Tree := rs.foldl (fun t r => treePut r.1.1 r.1.2 r.2.dat t) t
noncomputable def rowAt (rs : List RowW) (p : Int × Int) : Hit := rs.find? fun r => decide (r.1 = p)
theorem rowAt_key {rs : List RowW} {p : Int × Int} {r : RowW} (h : rowAt rs p = some r) : r.1 = p := of_decide_eq_true (List.find?_some (p := fun r : RowW => decide (r.1 = p)) h)
theorem rowAt_mem {rs : List RowW} {p : Int × Int} {r : RowW} (h : rowAt rs p = some r) : r ∈ rs := List.mem_of_find?_eq_some h
noncomputable def lkR (rs : List RowW) (y : Int) : Hit := (rowAt rs (topZ y 3, 3)).or ((rowAt rs (topZ y 2, 2)).or ((rowAt rs (topZ y 1, 1)).or (rowAt rs (topZ y 0, 0))))
theorem tree_all : ∀ (rs : List RowW) (t : Tree), WF t → (∀ r ∈ rs, Cn r.1.1 r.1.2) → (rs.map (·.1)).Nodup → WF (treeAll rs t) ∧ ∀ x l, Cn x l → entry (treeAll rs t) x l = match rowAt rs (x, l) with
    | some r => r.2.dat
    | none => entry t x l
  | [], t, h, _, _ => ⟨h, fun _ _ _ => rfl⟩
  | r :: rs, t, h, hc, hn => by
    have hp := put_spec (w := r.2.dat) (hc r (.head _)) t h
    rw [List.map_cons, List.nodup_cons] at hn
    have ih := tree_all rs (treePut r.1.1 r.1.2 r.2.dat t) hp.1 (fun q hq => hc q (.tail _ hq)) hn.2
    refine ⟨ih.1, fun x l hx => ?_⟩
    show entry (treeAll rs (treePut r.1.1 r.1.2 r.2.dat t)) x l = _
    rw [ih.2 x l hx]
    unfold rowAt
    rw [List.find?_cons]
    by_cases e : r.1 = (x, l)
    · rw [decide_eq_true e]
      have hno : rowAt rs (x, l) = none := by
        cases hr : rowAt rs (x, l) with
        | none => rfl
        | some q => exact absurd (List.mem_map.mpr ⟨q, rowAt_mem hr, (rowAt_key hr).trans e.symm⟩) hn.1
      unfold rowAt at hno
      rw [hno]
      dsimp only
      rw [hp.2.1 x l hx, if_pos (by rw [e]; exact ⟨rfl, rfl⟩)]
    · rw [decide_eq_false e]
      dsimp only
      cases hr : rs.find? fun r => decide (r.1 = (x, l)) with
      | some q => rfl
      | none =>
        dsimp only
        rw [hp.2.1 x l hx, if_neg (by rintro ⟨rfl, rfl⟩; exact e rfl)]
theorem better_dat (f : Dat) (x l : Int) (wo : Wo) : better f x l wo.dat = .tuple [pfxD x l, wo.dat] := by cases wo <;> rfl
theorem better_row {rs : List RowW} {x l : Int} {f : Hit} {e : Dat} (he : e = match rowAt rs (x, l) with
    | some r => r.2.dat
    | none => .none) : better (hitD f) x l e = hitD ((rowAt rs (x, l)).or f) := by
  cases hr : rowAt rs (x, l) with
  | none => rw [he, hr]; rfl
  | some r =>
    rw [he, hr]
    have hk := rowAt_key hr
    obtain ⟨⟨a, b⟩, wo⟩ := r
    cases hk
    exact better_dat _ _ _ _
theorem look_lk {rs : List RowW} (hc : ∀ r ∈ rs, Cn r.1.1 r.1.2) (hn : (rs.map (·.1)).Nodup) {y : Int} (h0 : 0 ≤ y) (h8 : y < 8) : lookGo y .none (treeAll rs .nil) = hitD (lkR rs y) := by
  have ha := tree_all rs .nil trivial hc hn
  rw [look_best _ _ _ ha.1 h0 h8]
  have cn : ∀ l, 0 ≤ l → l ≤ 3 → Cn (topZ y l) l := fun l h1 h2 => by
    have z := topZ_Z h0 h8 h1 h2 h1 h2
    exact ⟨z.1, z.2.1, h1, h2, z.2.2.2.2.1 (Int.le_refl _)⟩
  have en : ∀ l, 0 ≤ l → l ≤ 3 → entry (treeAll rs .nil) (topZ y l) l = match rowAt rs (topZ y l, l) with
    | some r => r.2.dat
    | none => .none := fun l h1 h2 => ha.2 _ _ (cn l h1 h2)
  unfold best lkR
  rw [show Dat.none = hitD none from rfl, better_row (en 0 (by omega) (by omega)), better_row (en 1 (by omega) (by omega)), better_row (en 2 (by omega) (by omega)), better_row (en 3 (by omega) (by omega)), Option.or_none]
theorem treePut_ok {x l : Int} {w : Dat} (hx : Cn x l) (t : Tree) (h : WF t) : (treePut x l w t).ok := by
  have : ∀ t, WF t → t.ok := by
    intro t
    induction t with
    | nil => intro _; trivial
    | node x l w a b iha ihb => rintro ⟨⟨c1, c2, c3, c4, _⟩, _, _, wa, wb⟩; exact ⟨c1, c2, c3, c4, iha wa, ihb wb⟩
  exact this _ (put_spec hx t h).1
theorem treePut_okW {x l : Int} {wo : Wo} : ∀ t : Tree, t.okW → (treePut x l wo.dat t).okW := by
  have hd : wo.dat = .none ∨ ∃ ds, wo.dat = .tuple ds := by cases wo <;> exact .inr ⟨_, rfl⟩
  intro t
  induction t with
  | nil => intro _; exact ⟨hd, trivial, trivial⟩
  | node x1 l1 w1 a b iha ihb =>
    rintro ⟨h1, h2, h3⟩
    have leaf : (Tree.node x l wo.dat .nil .nil).okW := ⟨hd, trivial, trivial⟩
    have old : (Tree.node x1 l1 w1 a b).okW := ⟨h1, h2, h3⟩
    unfold treePut
    repeat' split
    all_goals first | exact ⟨hd, h2, h3⟩ | exact ⟨h1, iha h2, h3⟩ | exact ⟨h1, h2, ihb h3⟩ | exact ⟨hd, old, trivial⟩ | exact ⟨hd, trivial, old⟩ | exact ⟨.inl rfl, leaf, trivial⟩ | exact ⟨.inl rfl, old, leaf⟩ | exact ⟨.inl rfl, leaf, old⟩ | exact ⟨.inl rfl, trivial, leaf⟩
theorem treePut_depth {x l : Int} {w : Dat} : ∀ t : Tree, (treePut x l w t).depth ≤ t.depth + 2 := by
  intro t
  induction t with
  | nil => simp [treePut, Tree.depth]
  | node x1 l1 w1 a b iha ihb =>
    unfold treePut
    repeat' split
    all_goals (simp only [Tree.depth]; omega)
end
section
theorem asc_eq : ∀ {xs ys : List (Int × Int)}, Asc xs → Asc ys → (∀ p, p ∈ xs ↔ p ∈ ys) → xs = ys
  | [], [], _, _, _ => rfl
  | [], y :: ys, _, _, h => nomatch (h y).mpr (.head _)
  | x :: xs, [], _, _, h => nomatch (h x).mp (.head _)
  | x :: xs, y :: ys, hx, hy, h => by
    have hx' := List.pairwise_cons.mp hx
    have hy' := List.pairwise_cons.mp hy
    have e : x = y := by
      rcases List.mem_cons.mp ((h x).mp (.head _)) with e | h1
      · exact e
      · rcases List.mem_cons.mp ((h y).mpr (.head _)) with e | h2
        · exact e.symm
        · have a := hx'.1 y h2
          have b := hy'.1 x h1
          omega
    subst e
    rw [asc_eq hx'.2 hy'.2 fun p => ?_]
    have irr : ∀ p, p ∈ xs ∨ p ∈ ys → p ≠ x := by
      rintro p (hp | hp) rfl
      · have := hx'.1 p hp; omega
      · have := hy'.1 p hp; omega
    constructor
    · intro hp
      rcases List.mem_cons.mp ((h p).mp (.tail _ hp)) with e | h1
      · exact absurd e (irr p (.inl hp))
      · exact h1
    · intro hp
      rcases List.mem_cons.mp ((h p).mpr (.tail _ hp)) with e | h1
      · exact absurd e (irr p (.inr hp))
      · exact h1
theorem rowAt_some {rs : List RowW} (hn : (rs.map (·.1)).Nodup) {r : RowW} (hr : r ∈ rs) : rowAt rs r.1 = some r := by
  induction rs with
  | nil => cases hr
  | cons q rs ih =>
    rw [List.map_cons, List.nodup_cons] at hn
    unfold rowAt
    rw [List.find?_cons]
    rcases List.mem_cons.mp hr with rfl | hr
    · rw [decide_eq_true rfl]
    · rw [decide_eq_false (fun e => hn.1 (List.mem_map.mpr ⟨r, hr, e.symm⟩))]
      exact ih hn.2 hr
theorem rowAt_none {rs : List RowW} {p : Int × Int} (h : ∀ r ∈ rs, r.1 ≠ p) : rowAt rs p = none := by
  unfold rowAt
  rw [List.find?_eq_none]
  intro r hr e
  exact h r hr (of_decide_eq_true e)
theorem lkR_mem {rs : List RowW} {y : Int} {r : RowW} (h : lkR rs y = some r) : r ∈ rs := by
  unfold lkR at h
  rcases Option.or_eq_some_iff.mp h with h | ⟨_, h⟩
  · exact rowAt_mem h
  · rcases Option.or_eq_some_iff.mp h with h | ⟨_, h⟩
    · exact rowAt_mem h
    · rcases Option.or_eq_some_iff.mp h with h | ⟨_, h⟩
      · exact rowAt_mem h
      · exact rowAt_mem h
theorem lkR_none {rs : List RowW} {y : Int} (h : ∀ r ∈ rs, topZ y r.1.2 ≠ r.1.1) : lkR rs y = none := by
  unfold lkR
  rw [rowAt_none fun r hr e => h r hr (by rw [e]), rowAt_none fun r hr e => h r hr (by rw [e]), rowAt_none fun r hr e => h r hr (by rw [e]), rowAt_none fun r hr e => h r hr (by rw [e])]
  rfl
theorem lkR_max {rs : List RowW} {y : Int} (hn : (rs.map (·.1)).Nodup) {r : RowW} (hr : r ∈ rs) (hc : Cn r.1.1 r.1.2) (hm : topZ y r.1.2 = r.1.1) (hx : ∀ q ∈ rs, topZ y q.1.2 = q.1.1 → q.1.2 ≤ r.1.2) : lkR rs y = some r := by
  obtain ⟨⟨a, l⟩, wo⟩ := r
  obtain ⟨c1, c2, c3, c4, c5⟩ := hc
  dsimp only at c1 c2 c3 c4 c5 hm hx
  have h1 := rowAt_some hn hr
  dsimp only at h1
  have no : ∀ l', l < l' → rowAt rs (topZ y l', l') = none := fun l' hl => rowAt_none fun q hq e => by
    have := hx q hq (by rw [e])
    rw [e] at this
    dsimp only at this
    omega
  rw [← hm] at h1
  have l4 : l = 0 ∨ l = 1 ∨ l = 2 ∨ l = 3 := by omega
  unfold lkR
  rcases l4 with rfl | rfl | rfl | rfl
  · rw [no 3 (by omega), no 2 (by omega), no 1 (by omega), h1, hm]; rfl
  · rw [no 3 (by omega), no 2 (by omega), h1, hm]; rfl
  · rw [no 3 (by omega), h1, hm]; rfl
  · rw [h1, hm]; rfl
theorem lkR_one {rs : List RowW} (hn : (rs.map (·.1)).Nodup) : OneRow (lkR rs) := fun y y' p w w' h h' => by
  have a := rowAt_some hn (lkR_mem h)
  have b := rowAt_some hn (lkR_mem h')
  dsimp only at a b
  rw [a] at b
  cases b
  rfl
theorem lkR_tab {rs : List RowW} (y : Int) (p : Int × Int) (w : Wo) (h : lkR rs y = some (p, w)) : p ∈ rs.map (·.1) := List.mem_map.mpr ⟨_, lkR_mem h, rfl⟩
end
section
theorem depth_due {lk : Int → Hit} {most : Int} {tab : List (Int × Int)} (hc : OneRow lk) (ht : ∀ y p w, lk y = some (p, w) → p ∈ tab) {a : Int} {p : Int × Int} {wo : Wo} (hl : lk a = some (p, wo)) (hw : ∀ k, wo ≠ .direct k) {r : Option Int} (D : DepthR lk most [a] [] 0 r) :
    (∀ j : Nat, (j : Int) < most → (∃ h, Bh lk j wo h) → (∀ i, i < j → ¬ ∃ h, Bh lk i wo h) → r = some (j : Int)) ∧ ((∀ j : Nat, (j : Int) < most → j ≤ tab.length → ¬ ∃ h, Bh lk j wo h) → r = none) := by
  have V := depth_val hc D 0 rfl (inv_zero a)
  have no0 : ¬ RR lk 0 a := fun ⟨q, k, h⟩ => by
    rw [hl] at h; cases h
    exact hw k rfl
  constructor
  · intro j hj hx hmin
    obtain ⟨k, k1, k2, k3⟩ := (bh_rr j hl).mp hx
    obtain ⟨K, K1, K2, K3⟩ := least_nat (P := fun k => RR lk k a) k3
    have hK1 : 1 ≤ K := by
      rcases Nat.eq_zero_or_pos K with e | h
      · rw [e] at K2; exact absurd K2 no0
      · exact h
    have hb := (bh_rr K hl).mpr ⟨K, hK1, Nat.le_refl _, K2⟩
    have : K = j := by
      rcases Nat.lt_or_ge K j with h | h
      · exact absurd hb (hmin K h)
      · omega
    rw [V.1 K K2 K3, this, if_pos hj]
  · intro hno
    by_cases hx : ∃ K, RR lk K a
    · obtain ⟨K₀, hK₀⟩ := hx
      obtain ⟨K, _, K2, K3⟩ := least_nat (P := fun k => RR lk k a) hK₀
      rw [V.1 K K2 K3]
      by_cases hm : (K : Int) < most
      · exfalso
        have hK1 : 1 ≤ K := by
          rcases Nat.eq_zero_or_pos K with e | h
          · rw [e] at K2; exact absurd K2 no0
          · exact h
        obtain ⟨h, hb⟩ := (bh_rr K hl).mpr ⟨K, hK1, Nat.le_refl _, K2⟩
        obtain ⟨j, _, j2, j3⟩ := least_nat (P := fun j => Bh lk j wo h) hb
        have hr : Reach lk ((K : Int) + 1) a [] h := reach_of_bh hc j p wo a [] h hl j2 j3 (fun _ h => nomatch h) (by simp; omega)
        obtain ⟨i, i1, i2, i3⟩ := (reach_iff hc ht hl hw).mp hr
        obtain ⟨k, k1, k2, k3⟩ := (bh_rr i hl).mp ⟨h, i1⟩
        exact hno i (by omega) i3 ⟨h, i1⟩
      · rw [if_neg hm]
    · exact V.2 fun K hK => hx ⟨K, hK⟩
theorem depth_direct {lk : Int → Hit} {most : Int} (hc : OneRow lk) {a : Int} {p : Int × Int} {k : Int} (hl : lk a = some (p, .direct k)) (hm : 0 < most) {r : Option Int} (D : DepthR lk most [a] [] 0 r) : r = some 0 := by
  have V := depth_val hc D 0 rfl (inv_zero a)
  rw [V.1 0 ⟨p, k, hl⟩ (fun i hi => by omega), if_pos (by simpa using hm)]
  rfl
theorem depth_none {lk : Int → Hit} {most : Int} (hc : OneRow lk) {a : Int} (hl : lk a = none) {r : Option Int} (D : DepthR lk most [a] [] 0 r) : r = none := by
  refine (depth_val hc D 0 rfl (inv_zero a)).2 fun K hK => ?_
  cases K with
  | zero => obtain ⟨_, _, h⟩ := hK; rw [hl] at h; cases h
  | succ K => obtain ⟨_, _, _, h, _⟩ := hK; rw [hl] at h; cases h
end
section
theorem match_F : ∀ y a : Fin 8, ∀ l : Fin 4, topZ (a.val : Int) (l.val : Int) = a.val → (((y.val : Int).fdiv (2 ^ (3 - (l.val : Int)).toNat) = (a.val : Int).fdiv (2 ^ (3 - (l.val : Int)).toNat)) ↔ topZ (y.val : Int) (l.val : Int) = a.val) := by decide +kernel
theorem match_Z {y a l : Int} (hc : Cn a l) (h0 : 0 ≤ y) (h8 : y < 8) : (y.fdiv (2 ^ (3 - l).toNat) = a.fdiv (2 ^ (3 - l).toNat)) ↔ topZ y l = a := by
  obtain ⟨a1, a2, a3, a4, a5⟩ := hc
  have h := match_F ⟨y.toNat, by omega⟩ ⟨a.toNat, by omega⟩ ⟨l.toNat, by omega⟩
  simp only [Int.toNat_of_nonneg h0, Int.toNat_of_nonneg a1, Int.toNat_of_nonneg a3] at h
  exact h a5
/-- a drawn prefix is one of the ranges -/
theorem drawn_Cn {l d : Int} (h0 : 0 ≤ l) (h3 : l ≤ 3) (d0 : 0 ≤ d) (dl : d < 2 ^ l.toNat) : Cn (d * 2 ^ (3 - l).toNat) l := by
  have l4 : l = 0 ∨ l = 1 ∨ l = 2 ∨ l = 3 := by omega
  have F : ∀ l : Fin 4, ∀ d : Fin 8, d.val < 2 ^ l.val → 0 ≤ (d.val : Int) * 2 ^ (3 - (l.val : Int)).toNat ∧ (d.val : Int) * 2 ^ (3 - (l.val : Int)).toNat < 8 ∧ topZ ((d.val : Int) * 2 ^ (3 - (l.val : Int)).toNat) (l.val : Int) = (d.val : Int) * 2 ^ (3 - (l.val : Int)).toNat := by decide +kernel
  have hd : d.toNat < 2 ^ l.toNat := by
    rcases l4 with rfl | rfl | rfl | rfl <;> simp at dl ⊢ <;> omega
  have h := F ⟨l.toNat, by omega⟩ ⟨d.toNat, by rcases l4 with rfl | rfl | rfl | rfl <;> simp at hd ⊢ <;> omega⟩ hd
  simp only [Int.toNat_of_nonneg h0, Int.toNat_of_nonneg d0] at h
  exact ⟨h.1, h.2.1, h0, h3, h.2.2⟩
end
section
open LCg
noncomputable def NotSeq (o : Obj) : Prop := ∀ xs n, o.data ≠ .seq xs n
section
variable {prog : Program} {w : World} {A : Around} {E : Value → Shared → Prop} {s : Shared} {h₀ : Heap} {L : Addr} {m : Str → Option Value} {env : Env} {cl : List (Str × Addr)} {scope : Scope} {elt ct : Expr} {x : Str} {S : List (Addr × Obj) → Prop} {P : Nat → Value → Prop} {n : Nat}

/-- what a comprehension walks over -/
noncomputable def Src (prog : Program) (w : World) (A : Around) (h₀ : Heap) (L : Addr) (xv : Value) (s₁ : Shared) (n : Nat) (P : Nat → Value → Prop) (S : List (Addr × Obj) → Prop) : Prop :=
  ∃ oI fp St, (∀ (Q E : Value → Shared → Prop), Q (.ref s₁.heap.objs.size) { s₁ with heap := s₁.heap.push oI } → wpAny (model prog w) A (pyIter xv) Q E s₁) ∧
    Walks prog w A s₁.heap.objs.size fp [s₁.heap.objs.size] n P St ∧ n ≤ 10000 ∧ (∀ i h, St i h → ∃ o, h.get? s₁.heap.objs.size = some o ∧ NotSeq o) ∧
    (∀ i h h' o nw, St i h → h.get? s₁.heap.objs.size = some o → h'.get? s₁.heap.objs.size = some o → (∀ b o, h₀.get? b = some o → h'.get? b = some o) → News h₀ L h' nw → S nw → St i h') ∧
    St 0 (s₁.heap.push oI) ∧ ∀ b ∈ fp, b ≤ s₁.heap.objs.size

theorem srcList {l : Addr} {c : Nat} {vs : List Value} {led : List (Addr × Obj)} (hh : A.handled = none) (N : News h₀ L s.heap led) (hm : (l, listOf vs.toArray c) ∈ led) (hz : vs.length ≤ 10000) :
    Src prog w A h₀ L (.ref l) s vs.length (fun i v => vs[i]? = some v) (fun nw => (l, listOf vs.toArray c) ∈ nw) := by
  have ho := N.get hm
  have hL : s.heap.IsList l vs.toArray := ⟨_, ho, rfl, _, rfl⟩
  have W := Walks.list (prog := prog) (w := w) hh s.heap.objs.size l (Nat.ne_of_lt (Heap.lt_size ho)) vs.toArray
  have e : (fun (i : Nat) (v : Value) => vs.toArray[i]? = some v) = fun i v => vs[i]? = some v := by funext i v; simp
  rw [e, show vs.toArray.size = vs.length by simp] at W
  refine ⟨_, _, _, fun Q E h => wpAny_pyIter_list hL h, W, hz, fun i h st => let ⟨o, ho, _, hd⟩ := st.1; ⟨o, ho, fun xs n e => by rw [hd] at e; cases e⟩, fun i h h' o nw st e e' k N' S' => ⟨?_, ⟨_, N'.get S', rfl, _, rfl⟩⟩, ⟨⟨_, Heap.get?_push_size _ rfl, rfl, rfl⟩, hL.at fun o e => Heap.get?_push_of_some _ e⟩, fun b hb => ?_⟩
  · obtain ⟨o', q, r⟩ := st.1; rw [e] at q; cases q; exact ⟨o, e', r⟩
  · revert b
    refine fa ?_ fun b hb => ?_
    · exact Nat.le_refl _
    · rw [List.mem_singleton.mp hb]; exact Nat.le_of_lt (Heap.lt_size ho)

theorem srcTuple {l : Addr} {c : Nat} {vs : List Value} {led : List (Addr × Obj)} (hh : A.handled = none) (N : News h₀ L s.heap led) (hm : (l, ({ cls := .type "tuple", data := .seq vs.toArray c } : Obj)) ∈ led) (hz : vs.length ≤ 10000) :
    Src prog w A h₀ L (.ref l) s vs.length (fun i v => vs[i]? = some v) (fun nw => (l, ({ cls := .type "tuple", data := .seq vs.toArray c } : Obj)) ∈ nw) := by
  have ho := N.get hm
  have hL : s.heap.IsTuple l vs.toArray := ⟨_, ho, rfl, _, rfl⟩
  have W := Walks.tuple (prog := prog) (w := w) hh s.heap.objs.size l (Nat.ne_of_lt (Heap.lt_size ho)) vs.toArray
  have e : (fun (i : Nat) (v : Value) => vs.toArray[i]? = some v) = fun i v => vs[i]? = some v := by funext i v; simp
  rw [e, show vs.toArray.size = vs.length by simp] at W
  refine ⟨_, _, _, fun Q E h => wpAny_pyIter_tuple hL h, W, hz, fun i h st => let ⟨o, ho, _, hd⟩ := st.1; ⟨o, ho, fun xs n e => by rw [hd] at e; cases e⟩, fun i h h' o nw st e e' k N' S' => ⟨?_, ⟨_, N'.get S', rfl, _, rfl⟩⟩, ⟨⟨_, Heap.get?_push_size _ rfl, rfl, rfl⟩, hL.push _⟩, fun b hb => ?_⟩
  · obtain ⟨o', q, r⟩ := st.1; rw [e] at q; cases q; exact ⟨o, e', r⟩
  · revert b
    refine fa ?_ fun b hb => ?_
    · exact Nat.le_refl _
    · rw [List.mem_singleton.mp hb]; exact Nat.le_of_lt (Heap.lt_size ho)

theorem srcDict {l : Addr} {ep : Nat} {es : Array DictEntry} {led : List (Addr × Obj)} (hh : A.handled = none) (lo : (l == sysModules) = false) (N : News h₀ L s.heap led) (hm : (l, dctO es ep) ∈ led) (hz : es.size ≤ 10000) :
    Src prog w A h₀ L (.ref l) s es.size (fun i v => ∃ e, es[i]? = some e ∧ v = e.key) (fun nw => (l, dctO es ep) ∈ nw) := by
  have ho := N.get hm
  have W := walks_raw (prog := prog) (w := w) hh s.heap.objs.size l (Nat.ne_of_lt (Heap.lt_size ho)) es ep
  refine ⟨_, _, _, fun Q E h => iter_raw lo ho h, W, hz, fun i h st => let ⟨o, ho, _, hd⟩ := st.1; ⟨o, ho, fun xs n e => by rw [hd] at e; cases e⟩, fun i h h' o nw st e e' k N' S' => ⟨?_, N'.get S'⟩, ⟨⟨_, Heap.get?_push_size _ rfl, rfl, rfl⟩, Heap.get?_push_of_some _ ho⟩, fun b hb => ?_⟩
  · obtain ⟨o', q, r⟩ := st.1; rw [e] at q; cases q; exact ⟨o, e', r⟩
  · revert b
    refine fa ?_ fun b hb => ?_
    · exact Nat.le_refl _
    · rw [List.mem_singleton.mp hb]; exact Nat.le_of_lt (Heap.lt_size ho)

theorem srcRange {r : Addr} {a b : Int} {t u v : Tok} {n : Nat} (hh : A.handled = none) (hr : IsRange s.heap r a b 1 t u v) (hsm : Builtin.Range.small a b 1 = true) (hn : Builtin.Range.rangeSize a b 1 = ((n : Nat) : Int)) (hz : n ≤ 10000) :
    Src prog w A h₀ L (.ref r) s n (fun i v => ∃ t, v = .int (a + (i : Int)) t) (fun _ => True) := by
  refine ⟨_, _, _, fun Q E h => wpAny_pyIter_range hr hsm h, range_walks hh a n, hz, fun i h st => ⟨_, st, fun xs n e => by cases e⟩, range_st, (by show IsRangeIter _ _ _ _ _; rw [hn]; simpa using Heap.get?_push_size _ rfl), fun b hb => ?_⟩
  rw [List.mem_singleton.mp hb]; exact Nat.le_refl _

/-- the tests of a comprehension's clause -/
noncomputable abbrev testsC (ifs : List Expr) (e : Env) : Sem Bool := forIn ifs true fun c r => if r = true then do let ok ← isTrue c e (eval c e); pure (ForInStep.yield ok) else pure (ForInStep.yield r)

/-- a turn of a comprehension, by an invariant -/
noncomputable def StepC (prog : Program) (w : World) (A : Around) (h₀ : Heap) (L : Addr) (m : Str → Option Value) (env : Env) (ifs : List Expr) (elt : Expr) (x : Str) (scope : Scope) (cl : List (Str × Addr)) (s : Shared) {σ : Type} (Led : σ → List (Addr × Obj)) (J : Nat → List Value → σ → Prop) (n : Nat) (P : Nat → Value → Prop) : Prop :=
  ∀ i v ys c I oI C oC D m₂ h tk (E' : Value → Shared → Prop), i < n → P i v → J i ys c → NsObj oC m₂ → m₂ x = some v → NotSeq oI → Fr h₀ L h m → News h₀ L h ((I, oI) :: (C, oC) :: (D, lst ys) :: Led c) → Off3 I C D (Led c) → ((@Ne Nat I C) ∧ (@Ne Nat I D) ∧ (@Ne Nat C D)) →
    wpAny (model prog w) A (testsC ifs (compEnvC scope cl C env)) (fun ok s' => if ok = true then
      wpAny (model prog w) A (eval elt (compEnvC scope cl C env)) (CompEnd h₀ L m { s with heap := h, toks := tk } I oI C oC D (lst ys) (fun _ => True) (fun y nw => ∃ c', nw = Led c' ∧ J (i + 1) (ys ++ [y]) c')) E' s'
      else CompEnd h₀ L m { s with heap := h, toks := tk } I oI C oC D (lst ys) (fun _ => True) (fun _ nw => ∃ c', nw = Led c' ∧ J (i + 1) ys c') Value.none s') E' { s with heap := h, toks := tk }

end
section
variable {prog : Program} {w : World} {A : Around} {E : Value → Shared → Prop} {R : Result → Shared → Prop} {s : Shared} {h₀ : Heap} {L : Addr} {m : Str → Option Value}
/-- a turn of one clause -/
noncomputable abbrev turnG (p : Pos) (t : Expr) (it : Value) (env : Env) (tail : Sem Fin) : Sem Fin :=
  standAt p >>= fun _ => pyNext it >>= fun r => match r with
    | none => pure (.done .next)
    | some v => letOwnedTupleGo t it v >>= fun _ => assign t env v >>= fun _ => tail
theorem loopG {e t : Expr} {d : Nat} {p : Pos} {it acc : Value} {env : Env} {tail : Sem Fin} (I : Nat → Shared → Prop)
    (hd : (Code.compLoop e d it acc env).isFrame = false) (hq : (Code.compLoop e d it acc env).quiet = true) (hu : A.under (.compLoop e d it acc env) = A)
    (ht : compTurn e d it acc env = turnG p t it env tail)
    (turn : ∀ n s, I n s → wpAny (model prog w) A (pyNext it) (fun r s₁ => match r with
      | none => R (.ok .next) s₁
      | some v => wpAny (model prog w) A (assign t env v) (fun _ s₂ => wpAny (model prog w) A tail (fun fin s₅ => match fin with | .done f => R (.ok f) s₅ | .again c => c = Code.compLoop e d it acc env ∧ ∃ m, m < n ∧ I m s₅) (notedBy (model prog w) A env fun e s' => R (.error e) s') s₂) (notedBy (model prog w) A env fun e s' => R (.error e) s') s₁) (notedBy (model prog w) A env fun e s' => R (.error e) s') s)
    (n : Nat) (h : I n s) (hl : ∀ v, letOwnedTupleGo t it v = pure () := by intro _; rfl) :
    codeAny (model prog w) A (.compLoop e d it acc env) R s := by
  refine codeAny_loop hq I (fun n s hI => ?_) n h
  rw [hu]
  have e1 : (model prog w).den (.compLoop e d it acc env) = (compTurn e d it acc env).onRaise (fun x => do noteFrame x env; theTreesLotGoes x) := by
    show (if (Code.compLoop e d it acc env).isFrame then (compTurn e d it acc env).onRaise (leaving env) else (compTurn e d it acc env).onRaise (fun x => do noteFrame x env; theTreesLotGoes x)) = _
    rw [hd]; rfl
  rw [e1]
  refine wpAny_noted ?_
  rw [ht]
  refine wpAny_bind (wpAny_standAt (wpAny_bind (wpAny_mono (turn n s hI) (fun r s₁ h₁ => ?_) fun _ _ h' => h')))
  cases r with
  | none => exact wpAny_pure h₁
  | some v =>
    refine wpAny_bind (wpAny_of_eq (hl v) ?_)
    refine wpAny_bind (wpAny_mono h₁ (fun _ s₂ h₂ => ?_) fun _ _ h' => h')
    exact h₂
/-- a clause of a comprehension, over places that stand, by an invariant -/
theorem clauseG {σ : Type} {e : Expr} {x : Str} {px p : Pos} {d n : Nat} {I C D : Addr} {env : Env} {tail : Sem Fin} {s₁ : Shared} {P : Nat → Value → Prop} {S : List (Addr × Obj) → Prop} {fp : List Addr} {St : Nat → Heap → Prop} (Led : σ → List (Addr × Obj)) (J : Nat → List Value → σ → Prop)
    (hd : (Code.compLoop e d (.ref I) (.ref D) env).isFrame = false) (hq : (Code.compLoop e d (.ref I) (.ref D) env).quiet = true) (hu : A.under (.compLoop e d (.ref I) (.ref D) env) = A)
    (ht : compTurn e d (.ref I) (.ref D) env = turnG p (.Name x px) (.ref I) env tail)
    (W : Walks prog w A I fp [I] n P St) (hIo : ∀ i h, St i h → ∃ o, h.get? I = some o ∧ NotSeq o)
    (hSt : ∀ i h h' o nw, St i h → h.get? I = some o → h'.get? I = some o → (∀ b o, h₀.get? b = some o → h'.get? b = some o) → News h₀ L h' nw → S nw → St i h')
    (hfpC : ∀ b ∈ fp, b ≠ C) (hx : env.kindOf x = some .local) (hp : (env.scope.kind == .class || (env.scope.kind == .module && env.locals != env.globals)) = false) (hC : env.locals = C)
    (hL : L ≠ I ∧ L ≠ C) (h0 : h₀.get? I = none ∧ h₀.get? C = none) (hne : (@Ne Nat I C) ∧ (@Ne Nat I D) ∧ (@Ne Nat C D)) (hS : ∀ i ys c, J i ys c → S (Led c))
    (step : ∀ i v ys c oI oC m₂ h tk (E' : Value → Shared → Prop), i < n → P i v → J i ys c → NsObj oC m₂ → m₂ x = some v → NotSeq oI → Fr h₀ L h m → News h₀ L h ((I, oI) :: (C, oC) :: (D, lst ys) :: Led c) → Off3 I C D (Led c) →
      wpAny (model prog w) A tail (fun fin s' => fin = .again (.compLoop e d (.ref I) (.ref D) env) ∧ ∃ h' tk' oC' m' ys' c', s' = { s₁ with heap := h', toks := tk' } ∧ NsObj oC' m' ∧ Fr h₀ L h' m ∧ News h₀ L h' ((I, oI) :: (C, oC') :: (D, lst ys') :: Led c') ∧ Off3 I C D (Led c') ∧ J (i + 1) ys' c') E' { s₁ with heap := h, toks := tk })
    (done : ∀ h tk ys c oC m', J n ys c → NsObj oC m' → Fr h₀ L h m → News h₀ L h ((C, oC) :: (D, lst ys) :: Led c) → Off3 I C D (Led c) → R (.ok .next) { s₁ with heap := h, toks := tk })
    {h : Heap} {tk : Nat} {ys : List Value} {c : σ} {oC : Obj} {m' : Str → Option Value} (hst : St 0 h) (hJ : J 0 ys c) (hN : NsObj oC m') (F : Fr h₀ L h m) (N : News h₀ L h ((C, oC) :: (D, lst ys) :: Led c)) (off : Off3 I C D (Led c)) :
    codeAny (model prog w) A (.compLoop e d (.ref I) (.ref D) env) R { s₁ with heap := h, toks := tk } := by
  refine loopG (fun k s' => ∃ h tk i ys c oC m', s' = { s₁ with heap := h, toks := tk } ∧ i ≤ n ∧ k + i = n + 1 ∧ J i ys c ∧ St i h ∧ NsObj oC m' ∧ Fr h₀ L h m ∧ News h₀ L h ((C, oC) :: (D, lst ys) :: Led c) ∧ Off3 I C D (Led c)) hd hq hu ht ?_ (n + 1)
    ⟨h, tk, 0, ys, c, oC, m', rfl, Nat.zero_le _, rfl, hJ, hst, hN, F, N, off⟩
  rintro k _ J9_2
  refine cps fun Pz kz => ?_
  obtain ⟨h, tk, i, ys, c, oC, m', rfl, hin, hk, hJ, hst, hN, F, N, off⟩ := J9_2
  refine kz ?_
  clear kz Pz
  have offm := off.mem
  have offI : ∀ q ∈ (C, oC) :: (D, lst ys) :: Led c, q.1 ≠ I := fun q hq => by
    revert q
    refine fa ?_ (fa ?_ fun q hq => ?_)
    · exact fun e => hne.1 e.symm
    · exact fun e => hne.2.1 e.symm
    · exact (offm q hq).1
  rcases Nat.lt_or_ge i n with hlt | hge
  · refine W.item i _ _ _ hlt hst fun v h2 tk2 hPv hst2 keep2 => ?_
    have nw2 := news_but N keep2 offI
    have ns2 : h2.Ns env.locals m' := by rw [hC]; exact hN.ns (nw2 _ (.head _)).1
    refine wpAny_assign_Name (wpAny_storeName_local hx ns2 (fun h3 hn3 hs3 => ?_) hp)
    rw [hC] at hn3 hs3
    have hst3 : St (i + 1) h3 := W.frame _ _ _ hst2 fun b hb o e => hs3.extBut b o (hfpC b hb) e
    refine cps fun Pz kz => ?_
    obtain ⟨oI, gI, nsI⟩ := hIo _ _ hst3
    obtain ⟨oC3, gC, nsC⟩ := ns_obj hn3
    refine kz ?_
    clear kz Pz
    have F3 : Fr h₀ L h3 m := (fr_but F keep2 hL.1 h0.1).change hs3 hL.2.symm h0.2
    have nw3 : News h₀ L h3 ((I, oI) :: (C, oC3) :: (D, lst ys) :: Led c) := fun q hq => by
      revert q
      refine fa ?_ (fa ?_ fun q hq => ?_)
      · exact ⟨gI, hL.1.symm, h0.1⟩
      · exact ⟨gC, hL.2.symm, h0.2⟩
      · have z := nw2 q (.tail _ hq)
        refine ⟨hs3.extBut _ _ ?_ z.1, z.2⟩
        rcases List.mem_cons.mp hq with rfl | hq
        · exact hne.2.2.symm
        · exact (offm q hq).2.1
    refine wpAny_mono (step i v ys c oI oC3 _ h3 _ _ hlt hPv hJ nsC (by simp) nsI F3 nw3 off) (fun fin s₄ h₄ => ?_) fun _ _ e => e
    refine cps fun Pz kz => ?_
    obtain ⟨rfl, h4, tk4, oC4, m4, ys4, c4, rfl, nsC4, F4, N4, off4, J4⟩ := h₄
    refine kz ?_
    clear kz Pz
    have st4 : St (i + 1) h4 := hSt _ _ _ _ _ hst3 gI (N4 _ (.head _)).1 F4.keep (fun q hq => N4 q (.tail _ (.tail _ (.tail _ hq)))) (hS _ _ _ J4)
    exact ⟨rfl, n - i, by omega, h4, tk4, i + 1, ys4, c4, oC4, m4, rfl, hlt, by omega, J4, st4, nsC4, F4, fun q hq => N4 q (.tail _ hq), off4⟩
  · obtain rfl : i = n := Nat.le_antisymm hin hge
    refine W.done _ _ _ hst fun h2 tk2 keep2 => ?_
    exact done h2 tk2 ys c oC m' hJ hN (fr_but F keep2 hL.1 h0.1) (news_but N keep2 offI) off
end
section
variable {prog : Program} {w : World} {A : Around} {E : Value → Shared → Prop} {s : Shared} {h₀ : Heap} {L : Addr} {m : Str → Option Value} {env : Env} {cl : List (Str × Addr)} {scope : Scope} {elt ct : Expr} {x : Str} {S : List (Addr × Obj) → Prop} {P : Nat → Value → Prop} {n : Nat}
/-- the places of a comprehension made -/
theorem comp_open {gens : List Comprehension} {t0 i0 : Expr} {ifs0 : List Expr} {pos : Pos} {xv : Value} {s₁ : Shared} {led : List (Addr × Obj)} {RR : Value → Addr → Result → Shared → Prop}
    (hs : Src prog w A h₀ L xv s₁ n P S) (hcell : ∀ y ∈ scope.names, y.2 ≠ .cell) (hkind : scope.kind = .function) (F : Fr h₀ L s₁.heap m) (N : News h₀ L s₁.heap led)
    (k : ∀ (I : Addr) (fp : List Addr) (St : Nat → Heap → Prop) (g : Heap) (oC : Obj) (m' : Str → Option Value), n ≤ 10000 → L < I → (∀ a, I ≤ a → h₀.get? a = none) → (∀ b ∈ fp, b ≤ I) → Walks prog w A I fp [I] n P St → (∀ i h, St i h → ∃ o, h.get? I = some o ∧ NotSeq o) →
      (∀ i h h' o nw, St i h → h.get? I = some o → h'.get? I = some o → (∀ b o, h₀.get? b = some o → h'.get? b = some o) → News h₀ L h' nw → S nw → St i h') → St 0 g → Fr h₀ L g m → NsObj oC m' → News h₀ L g ((I + 2, oC) :: (I + 1, lst []) :: led) → Off3 I (I + 2) (I + 1) led →
      ∀ tk, codeAny (model prog w) A (.compLoop (.ListComp elt (⟨t0, i0, ifs0, 0⟩ :: gens) scope pos) 0 (.ref I) (.ref (I + 1)) (compEnvC scope cl (I + 2) env)) (RR (.ref (I + 1)) (I + 2)) { s₁ with heap := g, toks := tk }) :
    wpAny (model prog w) A (pyIter xv) (fun it s₂ => wpAny (model prog w) A (newList []) (fun acc s₃ => wpAny (model prog w) A (newFunctionEnv scope env.globals cl [] env.qual none .none (some env)) (fun cenv s₄ =>
      codeAny (model prog w) A (.compStart (.ListComp elt (⟨t0, i0, ifs0, 0⟩ :: gens) scope pos) 0 it acc { cenv with scope := relabel scope env }) (RR acc cenv.locals) s₄) E s₃) E s₂) E s₁ := by
  refine cps fun Pz kz => ?_
  obtain ⟨oI₀, fp, St, hit, W, hz, hIo, hSt, hst0, hfp⟩ := hs
  refine kz ?_
  clear kz Pz
  refine hit _ _ (wpAny_newObj_type (wpAny_newFunctionEnv hcell (fun _ h => nomatch h) (fun g hns hsb => ?_) hkind))
  generalize hI : s₁.heap.objs.size = I at *
  have eD : (s₁.heap.push oI₀).objs.size = I + 1 := by rw [Heap.size_push, hI]
  have eC : ((s₁.heap.push oI₀).push { cls := .type "list", dict := none, data := .seq ([] : List Value).toArray }).objs.size = I + 2 := by rw [Heap.size_push, eD]
  dsimp only at hns hsb ⊢
  rw [eC] at hns hsb ⊢
  rw [eD]
  have old : ∀ b o, (s₁.heap.push oI₀).get? b = some o → g.get? b = some o := fun b o e => hsb.extBut b o (Nat.ne_of_lt (Nat.lt_of_lt_of_le (eD ▸ Heap.lt_size e : @LT.lt Nat _ b (I + 1)) (Nat.le_succ _))) (Heap.get?_push_of_some _ (Heap.get?_push_of_some _ e))
  have accAt : g.get? (I + 1) = some (lst []) := hsb.extBut _ _ (Nat.ne_of_lt (Nat.lt_succ_self _)) (Heap.get?_push_of_some _ (by rw [← eD]; exact Heap.get?_push_size _ rfl))
  have hLI : L < I := hI ▸ F.ns.lt
  have free : ∀ a, I ≤ a → h₀.get? a = none := fun a ha => Heap.get?_none_of_le (by have := F.above; have hLI' : L ≤ a := Nat.le_of_lt (Nat.lt_of_lt_of_le hLI ha); exact Nat.le_trans this hLI')
  have lowN : ∀ q ∈ led, q.1 < I := fun q hq => hI ▸ Heap.lt_size (N q hq).1
  have lowF : ∀ b ∈ fp, b ≤ I := hfp
  obtain ⟨oC, gC, nsC⟩ := ns_obj hns
  have F1 : Fr h₀ L g m := (F.keeps fun b o e => Heap.get?_push_of_some _ e).keeps old
  have st1 : St 0 g := W.frame _ _ _ hst0 fun b _ o e => old b o e
  have nL1 : L ≠ I + 1 := Nat.ne_of_lt (Nat.lt_succ_of_lt hLI)
  have nL2 : L ≠ I + 2 := Nat.ne_of_lt (Nat.lt_succ_of_lt (Nat.lt_succ_of_lt hLI))
  have N1 : News h₀ L g ((I + 2, oC) :: (I + 1, lst []) :: led) := fun q hq => by
    revert q
    refine fa ?_ (fa ?_ fun q hq => ?_)
    · exact ⟨gC, nL2.symm, free _ (Nat.le_add_right _ _)⟩
    · exact ⟨accAt, nL1.symm, free _ (Nat.le_succ _)⟩
    · have z := N q hq
      exact ⟨old _ _ (Heap.get?_push_of_some _ z.1), z.2⟩
  have apart : Off3 I (I + 2) (I + 1) led := Off3.of fun q hq => by have := lowN q hq; exact ⟨Nat.ne_of_lt this, Nat.ne_of_lt (Nat.lt_succ_of_lt (Nat.lt_succ_of_lt this)), Nat.ne_of_lt (Nat.lt_succ_of_lt this)⟩
  have key := k I fp St g oC _ hz hLI free lowF W hIo hSt st1 F1 nsC N1 apart
  exact codeAny_compStart_list (key _) (W.self 0 _ _ _ st1 (key _))
theorem block_C {σ : Type} {iter : Expr} {ifs : List Expr} {px : Pos} {pos : Pos} {xv : Value} {s₁ : Shared} {led : List (Addr × Obj)} {RR : Value → Addr → Result → Shared → Prop} (Led : σ → List (Addr × Obj)) (J : Nat → List Value → σ → Prop) (c₀ : σ)
    (hs : Src prog w A h₀ L xv s₁ n P S) (hcell : ∀ y ∈ scope.names, y.2 ≠ .cell) (hkind : scope.kind = .function) (hx : scope.names.lookup x = some .local)
    (F : Fr h₀ L s₁.heap m) (N : News h₀ L s₁.heap led) (hn : ∀ q ∈ Led c₀, q ∈ led) (hS : ∀ i ys c, J i ys c → S (Led c)) (hj : J 0 [] c₀)
    (step : StepC prog w A h₀ L m env ifs elt x scope cl s₁ Led J n P)
    (hRR : ∀ D C h tk m' ys c, Fr h₀ L h m → News h₀ L h ((D, lst ys) :: Led c) → Off1 D (Led c) → h.Ns C m' → h₀.get? C = none → C ≠ L → D ≠ C → (∀ p ∈ Led c, p.1 ≠ C) → J n ys c → RR (.ref D) C (.ok .next) { s₁ with heap := h, toks := tk }) :
    wpAny (model prog w) A (pyIter xv) (fun it s₂ => wpAny (model prog w) A (newList []) (fun acc s₃ => wpAny (model prog w) A (newFunctionEnv scope env.globals cl [] env.qual none .none (some env)) (fun cenv s₄ =>
      codeAny (model prog w) A (.compStart (.ListComp elt [⟨.Name x px, iter, ifs, 0⟩] scope pos) 0 it acc { cenv with scope := relabel scope env }) (RR acc cenv.locals) s₄) E s₃) E s₂) E s₁ := by
  refine comp_open hs hcell hkind F N fun I fp St g oC m' hz hLI free lowF W hIo hSt st1 F1 nsC N1 apart tk₀ => ?_
  have kf : (compEnvC scope cl (I + 2) env).scope.kind = .function := by simp [compEnvC, relabel, hkind]
  have nL2 : L ≠ I + 2 := Nat.ne_of_lt (Nat.lt_succ_of_lt (Nat.lt_succ_of_lt hLI))
  have kx : (compEnvC scope cl (I + 2) env).kindOf x = some .local := lookup_relabel_local hx
  have kp : ((compEnvC scope cl (I + 2) env).scope.kind == .class || ((compEnvC scope cl (I + 2) env).scope.kind == .module && (compEnvC scope cl (I + 2) env).locals != (compEnvC scope cl (I + 2) env).globals)) = false := by rw [kf]; rfl
  refine clauseG (tail := testsC ifs (compEnvC scope cl (I + 2) env) >>= fun ok => if ok = true then (eval elt (compEnvC scope cl (I + 2) env) >>= fun x => call (.builtin "list.append") [.ref (I + 1), x] >>= fun _ => pure ()) >>= fun _ => again (.compLoop (.ListComp elt [⟨.Name x px, iter, ifs, 0⟩] scope pos) 0 (.ref I) (.ref (I + 1)) (compEnvC scope cl (I + 2) env)) else again (.compLoop (.ListComp elt [⟨.Name x px, iter, ifs, 0⟩] scope pos) 0 (.ref I) (.ref (I + 1)) (compEnvC scope cl (I + 2) env)))
    (S := S) Led (fun i ys c => J i ys c ∧ ys.length ≤ i ∧ i ≤ n) rfl rfl rfl (by rw [compTurn_list]; rfl) W hIo hSt (fun b hb => Nat.ne_of_lt (Nat.lt_of_le_of_lt (lowF b hb) (by show I < I + 2; omega))) kx kp rfl ⟨Nat.ne_of_lt hLI, nL2⟩ ⟨free _ (Nat.le_refl _), free _ (Nat.le_add_right _ _)⟩ ⟨by show I ≠ I + 2; omega, by show I ≠ I + 1; omega, by show I + 2 ≠ I + 1; omega⟩ (fun i ys c hj => hS _ _ _ hj.1) ?_ ?_ st1 ⟨hj, Nat.le_refl _, Nat.zero_le _⟩ nsC F1
    (fun q hq => N1 q ?_) (Off3.of fun q hq => apart.mem q (hn q hq))
  · rintro i v ys c oI oC m₂ h tk E' hi hv ⟨hJ, hyl, -⟩ nsC hmx hnI F2 N2 off
    refine wpAny_bind (wpAny_mono (step i v ys c I oI (I + 2) oC (I + 1) _ h _ _ hi hv hJ nsC hmx hnI F2 N2 off ⟨by show I ≠ I + 2; omega, by show I ≠ I + 1; omega, by show I + 2 ≠ I + 1; omega⟩) (fun ok s₄ h₄ => ?_) fun _ _ e => e)
    cases ok with
    | false =>
      refine cps fun Pz kz => ?_
      obtain ⟨h4, tk4, _, rfl, F4, N4, off4, _, c', rfl, J4⟩ := h₄
      refine kz ?_
      clear kz Pz
      exact wpAny_pure ⟨rfl, h4, tk4, oC, m₂, ys, c', rfl, nsC, F4, N4, off4, J4, Nat.le_succ_of_le hyl, hi⟩
    | true =>
      refine wpAny_bind (wpAny_bind (wpAny_mono h₄ (fun y s₅ h₅ => ?_) fun _ _ e => e))
      refine cps fun Pz kz => ?_
      obtain ⟨h4, tk4, _, rfl, F4, N4, off4, _, c', rfl, J4⟩ := h₅
      refine kz ?_
      clear kz Pz
      have offm4 := off4.mem
      have nL1 : L ≠ I + 1 := Nat.ne_of_lt (Nat.lt_succ_of_lt hLI)
      refine wpAny_bind (append_at (hsz := by show ys.toArray.size ≤ sizeLine; rw [List.size_toArray, sizeLine_eq]; omega) (N4 _ (.tail _ (.tail _ (.head _)))).1 fun h5 hs5 hD5 => wpAny_pure (wpAny_pure ⟨rfl, h5, tk4, oC, m₂, ys ++ [y], c', rfl, nsC, F4.change hs5 nL1.symm (free _ (Nat.le_succ _)), fun q hq => ?_, off4, J4, by rw [List.length_append]; exact Nat.succ_le_succ hyl, hi⟩))
      revert q
      refine fa ?_ (fa ?_ (fa ?_ fun q hq => ?_))
      · have z := N4 _ (.head _)
        exact ⟨hs5.extBut _ _ (by show I ≠ I + 1; omega) z.1, z.2⟩
      · have z := N4 _ (.tail _ (.head _))
        exact ⟨hs5.extBut _ _ (by show I + 2 ≠ I + 1; omega) z.1, z.2⟩
      · exact ⟨hD5.trans (congrArg some (lst_snoc ys y)), nL1.symm, free _ (Nat.le_succ _)⟩
      · have z := N4 q (.tail _ (.tail _ (.tail _ hq)))
        exact ⟨hs5.extBut _ _ (offm4 q hq).2.2 z.1, z.2⟩
  · rintro h tk ys c oC m' ⟨hJ, -⟩ nsC F2 N2 off2
    exact hRR _ _ h tk _ ys c F2 (fun q hq => N2 q (.tail _ hq)) off2.one (nsC.ns (N2 _ (.head _)).1) (free _ (Nat.le_add_right _ _)) nL2.symm (by show I + 1 ≠ I + 2; omega) (fun q hq => (off2.mem q hq).2.1) hJ
  · revert q
    refine fa ?_ (fa ?_ fun q hq => ?_)
    · exact .head _
    · exact .tail _ (.head _)
    · exact .tail _ (.tail _ (hn q hq))

/-- at a comprehension's source -/
noncomputable def AtSrc (prog : Program) (w : World) (A : Around) (h₀ : Heap) (L : Addr) (m : Str → Option Value) (env : Env) (ifs : List Expr) (elt : Expr) (x : Str) (scope : Scope) (cl : List (Str × Addr)) (Fin : Shared → List Value → List (Addr × Obj) → Prop) (xv : Value) (s₁ : Shared) : Prop :=
  ∃ (σ : Type) (Led : σ → List (Addr × Obj)) (J : Nat → List Value → σ → Prop) (c₀ : σ) (n : Nat) (P : Nat → Value → Prop) (S : List (Addr × Obj) → Prop) (led : List (Addr × Obj)), Fr h₀ L s₁.heap m ∧ News h₀ L s₁.heap led ∧ (∀ q ∈ Led c₀, q ∈ led) ∧ Src prog w A h₀ L xv s₁ n P S ∧
    (∀ i ys c, J i ys c → S (Led c)) ∧ J 0 [] c₀ ∧ StepC prog w A h₀ L m env ifs elt x scope cl s₁ Led J n P ∧ ∀ ys c, J n ys c → Fin s₁ ys (Led c)
theorem AtSrc.intro {σ : Type} {ifs : List Expr} {Fin : Shared → List Value → List (Addr × Obj) → Prop} {xv : Value} {s₁ : Shared} {led : List (Addr × Obj)} (Led : σ → List (Addr × Obj)) (J : Nat → List Value → σ → Prop) (c₀ : σ) (F : Fr h₀ L s₁.heap m) (N : News h₀ L s₁.heap led) (hn : ∀ q ∈ Led c₀, q ∈ led) (hs : Src prog w A h₀ L xv s₁ n P S)
    (hS : ∀ i ys c, J i ys c → S (Led c)) (hj : J 0 [] c₀) (step : StepC prog w A h₀ L m env ifs elt x scope cl s₁ Led J n P) (fin : ∀ ys c, J n ys c → Fin s₁ ys (Led c)) : AtSrc prog w A h₀ L m env ifs elt x scope cl Fin xv s₁ :=
  ⟨σ, Led, J, c₀, n, P, S, led, F, N, hn, hs, hS, hj, step, fin⟩

theorem comp_eval {ifs : List Expr} {iter : Expr} {px : Pos} {pos : Pos} {Q : Value → Shared → Prop} (F₀ : Fr h₀ L s.heap m)
    (hclos : closureFor scope env = pure cl) (hcell : ∀ y ∈ scope.names, y.2 ≠ .cell) (hkind : scope.kind = .function)
    (hnames : ∀ y ∈ scope.names, y.2 = .local → scope.names.lookup y.1 = some .local) (hx : scope.names.lookup x = some .local)
    (h : wpAny (model prog w) A (eval iter env) (AtSrc prog w A h₀ L m env ifs elt x scope cl (fun s₂ => FinE h₀ L m s₂ Q)) E s)
    (hs : ∀ x, foldedSetIterable iter env x = pure x := by intro _; rfl) :
    wpAny (model prog w) A (eval (.ListComp elt [⟨.Name x px, iter, ifs, 0⟩] scope pos) env) Q E s := by
  rw [eval_ListComp]
  refine wpAny_comprehension_free (use := none) rfl hs hclos hkind hnames (wpAny_mono h (fun xv s₁ h₁ => ?_) fun _ _ e => e)
  refine cps fun Pz kz => ?_
  obtain ⟨σ, Led, J, c₀, n, P, S, led, F, N, hn, hsrc, hS, hj, step, fin⟩ := h₁
  refine kz ?_
  clear kz Pz
  refine block_C Led J c₀ hsrc hcell hkind hx F N hn hS hj step ?_
  intro D C h tk m' ys c F' N' o1 hC hC₀ hCL hDC offC hJ
  refine ⟨m', hC, fun h'' hs'' => fin ys c hJ D h'' tk (F'.change hs'' hCL hC₀) (fun q hq => ⟨hs''.extBut _ _ ?_ (N' q hq).1, (N' q hq).2⟩) o1⟩
  revert q
  refine fa ?_ fun q hq => ?_
  · exact hDC
  · exact offC q hq
theorem comp_assign {ifs : List Expr} {iter : Expr} {y : Str} {px py : Pos} {pos spos : Pos} {Q : Flow → Shared → Prop} (F₀ : Fr h₀ L s.heap m) (hLe : env.locals = L)
    (hsw : swapsWith (.ListComp elt [⟨.Name x px, iter, ifs, 0⟩] scope pos) (some (.Name y py)) spos.line env = pure true)
    (hclos : closureFor scope env = pure cl) (hcell : ∀ z ∈ scope.names, z.2 ≠ .cell) (hkind : scope.kind = .function)
    (hnames : ∀ z ∈ scope.names, z.2 = .local → scope.names.lookup z.1 = some .local) (hx : scope.names.lookup x = some .local)
    (hy : env.kindOf y = some .local) (hp : (env.scope.kind == .class || (env.scope.kind == .module && env.locals != env.globals)) = false)
    (h : wpAny (model prog w) A (eval iter env) (AtSrc prog w A h₀ L m env ifs elt x scope cl (fun s₂ => FinA h₀ L m s₂ y Q)) E s)
    (hs : ∀ x, foldedSetIterable iter env x = pure x := by intro _; rfl) :
    wpAny (model prog w) A (exec (.Assign [.Name y py] (.ListComp elt [⟨.Name x px, iter, ifs, 0⟩] scope pos) spos) env) Q E s := by
  subst hLe
  rw [exec_Assign_Name_used _ _ _ _ hsw]
  refine wpAny_bind (wpAny_standAt (wpAny_bind ?_))
  show wpAny _ A (do let _ ← comprehension (.ListComp elt [⟨.Name x px, iter, ifs, 0⟩] scope pos) scope env _ (newList []) false (eval iter env) (some (assign (.Name y py) env))) _ _ s
  refine wpAny_bind (wpAny_mono (wpAny_comprehension_free (use := some (assign (.Name y py) env)) (Q := fun _ s' => Q .next s') rfl hs hclos hkind hnames
    (wpAny_mono h (fun xv s₁ h₁ => ?_) fun _ _ e => e)) (fun _ s' hq => wpAny_pure (wpAny_pure hq)) fun _ _ e => e)
  refine cps fun Pz kz => ?_
  obtain ⟨σ, Led, J, c₀, n, P, S, led, F, N, hn, hsrc, hS, hj, step, fin⟩ := h₁
  refine kz ?_
  clear kz Pz
  refine block_C Led J c₀ hsrc hcell hkind hx F N hn hS hj step ?_
  intro D C h tk m' ys c F' N' o1 hC hC₀ hCL hDC offC hJ
  show wpAny _ A (assign (.Name y py) env (.ref D)) _ _ _
  refine wpAny_assign_Name (wpAny_storeName_local hy F'.ns (fun h₂ hn₂ hs₂ => ?_) hp)
  have hL₀ : h₀.get? env.locals = none := Heap.get?_none_of_le F'.above
  have F₂ : Fr h₀ env.locals h₂ (fun z => if z = y then some (.ref D) else m z) := ⟨hn₂, fun b o e => hs₂.extBut b o (fun q => by rw [q, hL₀] at e; cases e) (F'.keep b o e), F'.above⟩
  refine ⟨m', hC.sameBut hs₂ hCL, fun h'' hs'' => fin ys c hJ D h'' _ (F₂.change hs'' hCL hC₀) (fun q hq => ⟨hs''.extBut _ _ ?_ (hs₂.extBut _ _ (N' q hq).2.1 (N' q hq).1), (N' q hq).2⟩) o1⟩
  revert q
  refine fa ?_ fun q hq => ?_
  · exact hDC
  · exact offC q hq

noncomputable def IsTup (o : Obj) : Prop := ∃ xs n, o = { cls := .type "tuple", data := .seq xs n }
theorem comp_out {X Y : List (Addr × Obj)} {I C D : Addr} {oI oC : Obj} {ys : List Value} {m₂ : Str → Option Value} {h : Heap} {tk : Nat} {rest : Value → List (Addr × Obj) → Prop} {y : Value} (F : Fr h₀ L h m) (N : News h₀ L h Y) (e : Ext ((I, oI) :: (C, oC) :: (D, lst ys) :: X) Y) (hC : NsObj oC m₂) (hI : NotSeq oI) (off : Off3 I C D X)
    (r : ∀ Z, Ext X Z → (∀ q ∈ Y, IsTup q.2 → q ∈ Z) → (∀ q ∈ Z, q ∈ Y) → rest y Z) : CompEnd h₀ L m s I oI C oC D (lst ys) (fun _ => True) rest y { s with heap := h, toks := tk } := by
  classical
  have offm := off.mem
  have mI := e.1 _ (.head _)
  have mC := e.1 _ (.tail _ (.head _))
  have mD := e.1 _ (.tail _ (.tail _ (.head _)))
  have fn : ∀ {a : Addr} {o o' : Obj}, (a, o) ∈ Y → (a, o') ∈ Y → o = o' := fun h1 h2 => Option.some.inj ((N.get h1).symm.trans (N.get h2))
  refine CompEnd.intro F N (Y.filter fun q => decide ((@Ne Nat q.1 I) ∧ (@Ne Nat q.1 C) ∧ (@Ne Nat q.1 D))) (fun q hq => ?_) (Off3.of fun q hq => of_decide_eq_true (List.mem_filter.mp hq).2) trivial (r _ ⟨fun q hq => List.mem_filter.mpr ⟨e.1 q (.tail _ (.tail _ (.tail _ hq))), decide_eq_true (offm q hq)⟩, fun q hq => ?_⟩ (fun q hq ht => ?_) fun q hq => (List.mem_filter.mp hq).1)
  · revert q
    refine fa ?_ (fa ?_ (fa ?_ fun q hq => ?_))
    · exact mI
    · exact mC
    · exact mD
    · exact (List.mem_filter.mp hq).1
  · obtain ⟨hq, hne⟩ := List.mem_filter.mp hq
    have hne := of_decide_eq_true hne
    rcases e.2 q hq with h1 | h1
    · rcases List.mem_cons.mp h1 with rfl | h1
      · exact absurd rfl hne.1
      rcases List.mem_cons.mp h1 with rfl | h1
      · exact absurd rfl hne.2.1
      rcases List.mem_cons.mp h1 with rfl | h1
      · exact absurd rfl hne.2.2
      exact .inl h1
    · exact .inr h1
  · obtain ⟨xs, n, ho⟩ := ht
    refine List.mem_filter.mpr ⟨hq, decide_eq_true ⟨fun e1 => ?_, fun e1 => ?_, fun e1 => ?_⟩⟩
    · have h1 : (I, q.2) ∈ Y := e1 ▸ hq
      have := fn mI h1
      exact hI xs n (by rw [this, ho])
    · have h1 : (C, q.2) ∈ Y := e1 ▸ hq
      have h2 := fn mC h1
      refine cps fun Pz kz => ?_
      obtain ⟨es, ep, hd, _⟩ := hC
      refine kz ?_
      clear kz Pz
      rw [h2, ho] at hd
      cases hd
    · have h1 : (D, q.2) ∈ Y := e1 ▸ hq
      have h2 := fn mD h1
      rw [ho] at h2
      have := congrArg Obj.cls h2
      exact absurd (Value.type.inj this) (by decide)
end
theorem dat_tup {X Y : List (Addr × Obj)} (hs : ∀ q ∈ X, IsTup q.2 → q ∈ Y) {v : Value} {d : Dat} (h : DatIn X v d) (k : NoL d) : DatIn Y v d :=
  dat_to (fun _ _ _ h => hs _ h ⟨_, _, rfl⟩) h (.inl k)
theorem dats_tup {X Y : List (Addr × Obj)} (hs : ∀ q ∈ X, IsTup q.2 → q ∈ Y) : ∀ {vs : List Value} {ds : List Dat}, DatAll X vs ds → NoLs ds → DatAll Y vs ds := by
  intro vs ds
  induction ds generalizing vs with
  | nil => intro h _; rw [dats_end h]; exact .nil
  | cons d ds ih =>
    intro h k
    refine cps fun Pz kz => ?_
    obtain ⟨v, r, rfl, i, j⟩ := dats_inv h
    refine kz ?_
    clear kz Pz
    exact .cons (dat_tup hs i k.1) (ih j k.2)
end
section
section
variable {prog : Program} {w : World} {A : Around} {E : Value → Shared → Prop} {s : Shared} {h₀ : Heap} {L : Addr} {m : Str → Option Value} {news : List (Addr × Obj)}
/-- two tuples whose first items are other ints -/
theorem gt_first {a b : Addr} {x y : Int} {t u : Tok} {v v' : Value} {n k : Nat} {Q : Value → Shared → Prop} (ha : s.heap.get? a = some { cls := .type "tuple", data := .seq [.int x t, v].toArray n }) (hb : s.heap.get? b = some { cls := .type "tuple", data := .seq [.int y u, v'].toArray k }) (hne : x ≠ y) (hu : A.units < cLine)
    (h : Q (.bool (decide (x > y))) s) : wpAny (model prog w) A (richCompare .Gt (.ref a) (.ref b)) Q E s := by
  have hTa : s.TypeIs (.ref a) "tuple" := ⟨_, ha, rfl⟩
  have hTb : s.TypeIs (.ref b) "tuple" := ⟨_, hb, rfl⟩
  refine wpAny_richCompare_same_room (op := .Gt) hTa hTb PySem.F.slot_tuple_gt (wpAny_call_entry PySem.F.slot_tuple_gt hTa PySem.F.entry_tuple_gt ?_ (PySem.F.args_tuple_gt_2 _ _)) hu
  show wpAny _ _ (isInstance (.ref b) (.type "tuple") >>= _) _ _ s
  refine wpAny_bind (wpAny_isInstance hTb isSubtype_tuple_tuple ?_)
  simp only [Bool.not_true, Bool.false_eq_true, if_false]
  refine wpAny_bind (wpAny_tupleItemsOf ha rfl ?_)
  refine wpAny_bind (wpAny_tupleItemsOf hb rfl ?_)
  refine wpAny_bind ?_
  show wpAny _ _ (forIn [(Value.int x t, Value.int y u), (v, v')] _ _) _ _ s
  rw [List.forIn_cons]
  refine wpAny_bind (wpAny_bind (wpAny_eqBool_int ?_))
  rw [show (x == y) = false by simpa using hne]
  simp only [Bool.not_false, if_true]
  refine wpAny_bind (wpAny_rule (wpAny_bind ?_))
  refine richCompare_gives (op := .Gt) (typeIs_int s _ t) (typeIs_int s _ u) PySem.F.slot_int_gt PySem.F.entry_int_gt (PySem.F.args_int_gt_2 _ _) (gives_int_gt _ _ t u) (fun x => nomatch x) ?_
  exact wpAny_bind (wpAny_pure (wpAny_pure (wpAny_pure (wpAny_pure ⟨_, rfl, fun e => (nomatch e), h⟩))))

/-- the items of a list that is walked for its greatest: tuples whose first items are ints, no two alike -/
structure Tops (g : Heap) (vs : List Value) (kf : Nat → Int) : Prop where
  at' : ∀ i, i < vs.length → ∃ a t v k, vs[i]? = some (.ref a) ∧ g.get? a = some { cls := .type "tuple", data := .seq [.int (kf i) t, v].toArray k }
  ne : ∀ i j, i < vs.length → j < vs.length → i ≠ j → kf i ≠ kf j

theorem max_more {l I S : Addr} {vs : List Value} {kf : Nat → Int} {g : Heap} {R : Result → Shared → Prop} (hh : A.handled = none) (hu : A.units + 1 < cLine) (hl : @Ne Nat l I) (hSI : @Ne Nat S I) (hSl : @Ne Nat S l) (hg : ∀ b o, g.get? b = some o → @Ne Nat b I ∧ @Ne Nat b S) (T : Tops g vs kf) :
    ∀ (k j : Nat) (s : Shared) (b : Nat) (vb : Value) (c : Nat), vs.length - (j + 1) = k → j + 1 ≤ vs.length → (s.heap.IsListIter I l (j + 1) ∧ s.heap.IsList l vs.toArray) → b ≤ j → (∀ i, i ≤ j → kf i ≤ kf b) → vs[b]? = some vb →
      s.heap.get? S = some { cls := .type "list", dict := none, data := .seq #[vb, vb] c, slots := #[] } → (∀ b o, g.get? b = some o → s.heap.get? b = some o) →
      (∀ b v h' tk, b < vs.length → vs[b]? = some v → (∀ i, i < vs.length → kf i ≤ kf b) → (∀ b o, g.get? b = some o → h'.get? b = some o) → R (.ok (.ret v)) { s with heap := h', toks := tk }) →
      codeAny (model prog w) A (.builtin "max.loop" ⟨[.ref I, .none, .ref S], []⟩) R s := by
  have W := Walks.list (prog := prog) (w := w) (A := A.in1) hh I l hl vs.toArray
  have name : (toString "max" ++ toString ".loop" : String) = "max.loop" := by decide
  have SnotI : S ∉ [I] := by simpa using hSI
  have Snot : S ∉ [I, l] := by simp only [List.mem_cons, List.not_mem_nil, or_false, not_or]; exact ⟨hSI, hSl⟩
  intro k
  induction k with
  | zero =>
    intro j s b vb c hk hj hst hb hbest hvb hS hkeep hR
    replace hk : vs.length = j + 1 := ((Nat.sub_eq_iff_eq_add hj).mp hk).trans (Nat.zero_add _)
    have e : j + 1 = vs.toArray.size := by rw [List.size_toArray, hk]
    refine codeAny_builtin PySem.F.entry_max_loop ?_
    rw [Around.under_plainId PySem.F.plain_max_loop _]
    show wpAny _ A.in1 (seqItems? (.ref S) >>= _) _ _ s
    refine wpAny_bind (wpAny_seqItems hS rfl ?_)
    show wpAny _ A.in1 (tryCatch (pyNext (.ref I)) _ >>= _) _ _ s
    refine wpAny_bind (wpAny_tryCatch (W.done s _ _ (e ▸ hst) fun h1 tk1 k1 => ?_))
    show wpAny _ A.in1 (updateSeq S (fun _ => #[]) >>= _) _ _ _
    refine wpAny_bind (wpAny_updateSeq (k1 S _ SnotI hS) rfl (wpAny_bind (wpAny_letGo (wpAny_pure ?_))))
    exact hR b vb _ tk1 (by rw [hk]; exact Nat.lt_succ_of_le hb) hvb (fun i hi => hbest i (Nat.le_of_lt_succ (by rw [hk] at hi; exact hi))) fun b o eb => (Heap.get?_update_other _ _ (Ne.symm (hg b o eb).2)).trans (k1 b o (by simpa using (hg b o eb).1) (hkeep b o eb))
  | succ k ih =>
    intro j s b vb c hk hj hst hb hbest hvb hS hkeep hR
    replace hk : vs.length = k + 1 + (j + 1) := (Nat.sub_eq_iff_eq_add hj).mp hk
    have hlt : j + 1 < vs.length := by omega
    refine codeAny_builtin PySem.F.entry_max_loop ?_
    rw [Around.under_plainId PySem.F.plain_max_loop _]
    show wpAny _ A.in1 (seqItems? (.ref S) >>= _) _ _ s
    refine wpAny_bind (wpAny_seqItems hS rfl ?_)
    show wpAny _ A.in1 (tryCatch (pyNext (.ref I)) _ >>= _) _ _ s
    refine wpAny_bind (wpAny_tryCatch (W.item (j + 1) s _ _ (by simpa using hlt) hst fun v h1 tk1 hv hst1 k1 => ?_))
    have hv : vs[j + 1]? = some v := by simpa using hv
    have S1 := k1 S _ SnotI hS
    have keep1 : ∀ b o, g.get? b = some o → h1.get? b = some o := fun b o eb => k1 b o (by simpa using (hg b o eb).1) (hkeep b o eb)
    obtain ⟨a1, t1, w1, n1, e1, g1⟩ := T.at' (j + 1) hlt
    obtain ⟨a2, t2, w2, n2, e2, g2⟩ := T.at' b (Nat.lt_of_le_of_lt hb (Nat.lt_of_succ_lt hlt))
    obtain rfl : v = .ref a1 := Option.some.inj (hv.symm.trans e1)
    obtain rfl : vb = .ref a2 := Option.some.inj (hvb.symm.trans e2)
    show wpAny _ A.in1 (tryCatch (holding [.ref a1, .ref a1] (richCompare .Gt (.ref a1) (.ref a2) >>= _)) _ >>= _) _ _ _
    refine wpAny_bind (wpAny_tryCatch (wpAny_holding (wpAny_bind (gt_first (keep1 _ _ g1) (keep1 _ _ g2) (T.ne (j + 1) b hlt (Nat.lt_of_le_of_lt hb (Nat.lt_of_succ_lt hlt)) (Nat.ne_of_gt (Nat.lt_succ_of_le hb))) (by show A.units + 1 < cLine; omega) ?_))))
    refine wpAny_bind (wpAny_holding (wpAny_truthy_bool ?_))
    refine wpAny_bind (wpAny_letGo (wpAny_pure ?_))
    have notS : ∀ b o, g.get? b = some o → S ≠ b := fun b o eb => Ne.symm (hg b o eb).2
    by_cases hc : kf (j + 1) > kf b
    · rw [decide_eq_true hc]
      simp only [if_true]
      refine wpAny_bind (wpAny_updateSeq S1 rfl (wpAny_bind (wpAny_letGo ?_)))
      rw [name]
      refine wpAny_pure ⟨plainId_quiet PySem.F.plain_max_loop _, ih (j + 1) _ (j + 1) (.ref a1) _ (Nat.sub_eq_of_eq_add (by omega)) hlt (W.frame _ _ _ hst1 fun b hb o e => (Heap.get?_update_other _ _ (fun q : S = b => Snot (q ▸ hb))).trans e) (Nat.le_refl _) (fun i hi => ?_) hv (Heap.get?_update_self _ S1 rfl)
        (fun b o eb => (Heap.get?_update_other _ _ (notS b o eb)).trans (keep1 b o eb)) fun b' v' h2 tk2 x1 x2 x3 x4 => hR b' v' h2 tk2 x1 x2 x3 x4⟩
      rcases Nat.lt_or_ge i (j + 1) with h | h
      · have := hbest i (by omega); omega
      · have : i = j + 1 := by omega
        rw [this]; exact Int.le_refl _
    · rw [decide_eq_false hc]
      simp only [Bool.false_eq_true, if_false]
      refine wpAny_bind (wpAny_letGo ?_)
      rw [name]
      refine wpAny_pure ⟨plainId_quiet PySem.F.plain_max_loop _, ih (j + 1) _ b (.ref a2) c (Nat.sub_eq_of_eq_add (by omega)) hlt hst1 (by omega) (fun i hi => ?_) hvb S1 keep1 fun b' v' h2 tk2 x1 x2 x3 x4 => hR b' v' h2 tk2 x1 x2 x3 x4⟩
      rcases Nat.lt_or_ge i (j + 1) with h | h
      · exact hbest i (by omega)
      · have : i = j + 1 := by omega
        rw [this]; omega

theorem max_tups {l : Addr} {c : Nat} {vs : List Value} {kf : Nat → Int} {Q : Value → Shared → Prop} (hh : A.handled = none) (hu : A.units + 2 < cLine) (F : Fr h₀ L s.heap m) (N : News h₀ L s.heap news) (hm : (l, listOf vs.toArray c) ∈ news) (hne : 0 < vs.length) (T : Tops s.heap vs kf)
    (h : ∀ b v h' tk, Fr h₀ L h' m → News h₀ L h' news → b < vs.length → vs[b]? = some v → (∀ i, i < vs.length → kf i ≤ kf b) → Q v { s with heap := h', toks := tk }) : wpAny (model prog w) A (call (.builtin "max") [.ref l]) Q E s := by
  have name : (toString "max" ++ toString ".loop" : String) = "max.loop" := by decide
  have ho := N.get hm
  have hlist : s.heap.IsList l vs.toArray := ⟨_, ho, rfl, _, rfl⟩
  have hl : @Ne Nat l s.heap.objs.size := Nat.ne_of_lt (Heap.lt_size ho)
  refine call_function_tree PySem.F.kind_max PySem.F.plain_max PySem.F.entry_max (PySem.F.args_max1 _) ?_
  show wpAny _ A.in1 (Builtin.Builtins.bindParams "max" ["key", "default"] 0 ⟨[], []⟩ >>= _) _ _ s
  refine wpAny_bind (wpAny_of_eq (show Builtin.Builtins.bindParams "max" ["key", "default"] 0 ⟨[], []⟩ = pure [none, none] from rfl) (wpAny_bind (wpAny_pure ?_)))
  refine wpAny_bind (wpAny_pyIter_list hlist (wpAny_bind (wpAny_newObj_type ?_)))
  rw [name]
  -- the iterator lies at the size, the pair of the best behind it
  generalize hI : s.heap.objs.size = I at *
  generalize hH : s.heap.push { cls := .type "list_iterator", data := .fields #[.ref l, .int 0 0] } = H at *
  have sizeH : H.objs.size = I + 1 := by rw [← hH, Heap.size_push, hI]
  have upH : ∀ b o, s.heap.get? b = some o → H.get? b = some o := fun b o e => by rw [← hH]; exact Heap.get?_push_of_some _ e
  have itH : H.IsListIter I l 0 := ⟨_, by rw [← hH, ← hI]; exact Heap.get?_push_size _ rfl, rfl, rfl⟩
  have lowb : ∀ b o, s.heap.get? b = some o → @LT.lt Nat _ b I := fun b o e => hI ▸ Heap.lt_size e
  have W := Walks.list (prog := prog) (w := w) (A := A.in1) hh I l hl vs.toArray
  refine wpAny_pure ⟨plainId_quiet PySem.F.plain_max_loop _, ?_⟩
  generalize hG : H.push { cls := .type "list", dict := none, data := .seq ([] : List Value).toArray } = G
  have S0 : G.get? (I + 1) = some { cls := .type "list", dict := none, data := .seq #[] 0, slots := #[] } := by rw [← hG, ← sizeH]; exact Heap.get?_push_size _ rfl
  have upG : ∀ b o, H.get? b = some o → G.get? b = some o := fun b o e => by rw [← hG]; exact Heap.get?_push_of_some _ e
  show codeAny (model prog w) A (.builtin "max.loop" ⟨[.ref I, .none, .ref H.objs.size], []⟩) _ _
  rw [sizeH]
  refine codeAny_builtin PySem.F.entry_max_loop ?_
  rw [Around.under_plainId PySem.F.plain_max_loop _]
  show wpAny _ A.in1 (seqItems? (.ref (I + 1)) >>= _) _ _ _
  refine wpAny_bind (wpAny_seqItems S0 rfl ?_)
  show wpAny _ A.in1 (tryCatch (pyNext (.ref I)) _ >>= _) _ _ _
  have stG : G.IsListIter I l 0 ∧ G.IsList l vs.toArray := ⟨itH.at fun o e => upG _ _ e, hlist.at fun o e => upG _ _ (upH _ _ e)⟩
  refine wpAny_bind (wpAny_tryCatch (W.item 0 _ _ _ (by simpa using hne) stG fun v h1 tk1 hv hst1 k1 => ?_))
  have S1 := k1 (I + 1) _ (by simp) S0
  show wpAny _ A.in1 (updateSeq (I + 1) (fun _ => #[v, v]) >>= _) _ _ _
  refine wpAny_bind (wpAny_updateSeq S1 rfl ?_)
  rw [name]
  refine wpAny_pure ⟨plainId_quiet PySem.F.plain_max_loop _, ?_⟩
  refine max_more (A := A) (g := s.heap) hh (by omega) hl (by simp) (Nat.ne_of_gt (Nat.lt_succ_of_lt (lowb _ _ ho))) (fun b o e => ⟨Nat.ne_of_lt (lowb b o e), Nat.ne_of_lt (Nat.lt_succ_of_lt (lowb b o e))⟩) T _ 0 _ 0 v _ rfl hne ?_ (Nat.le_refl _) (fun i hi => ?_) (by simpa using hv) (Heap.get?_update_self _ S1 rfl) ?_ ?_
  · exact W.frame _ _ _ hst1 fun b hb o e => (Heap.get?_update_other _ _ (fun q : I + 1 = b => absurd (q ▸ hb : I + 1 ∈ [I, l]) (by simp only [List.mem_cons, List.not_mem_nil, or_false, not_or]; exact ⟨Nat.succ_ne_self _, Nat.ne_of_gt (Nat.lt_succ_of_lt (lowb _ _ ho))⟩))).trans e
  · have : i = 0 := by omega
    rw [this]; exact Int.le_refl _
  · intro b o e
    exact (Heap.get?_update_other _ _ (Nat.ne_of_gt (Nat.lt_succ_of_lt (lowb b o e)))).trans (k1 b o (by simpa using Nat.ne_of_lt (lowb b o e)) (upG _ _ (upH _ _ e)))
  · intro b v' h2 tk2 x1 x2 x3 x4
    exact h b v' h2 _ (F.keeps x4) (N.grown x4) x1 x2 x3
end
end
section
local macro_rules | `(tactic| walk_at "exec Assign cons ListComp") => `(tactic| (k_here; k_dflt (refine comp_assign (F₀ := by k_asm) (by rfl) (by with_unfolding_all rfl) (by with_unfolding_all rfl) (by decide) (by rfl) (by decide) (by rfl) (by rfl) (by rfl) ?_)))
local macro_rules | `(tactic| walk_at "eval ListComp") => `(tactic| (k_here; k_dflt (refine comp_eval (F₀ := by k_asm) (by with_unfolding_all rfl) (by decide) (by rfl) (by decide) (by rfl) ?_)))
section
theorem fresh33 : True := by w_top off; trivial
open LCg

local macro_rules | `(tactic| walk_at "AtSrc") => `(tactic| (k_here; refine halt ?_))
local macro_rules | `(tactic| walk_at "CompEnd") => `(tactic| (k_here; refine halt ?_))
local macro_rules | `(tactic| walk_at "binaryOp Pow int int") => `(tactic| (k_here; (with_reducible refine pow_int_small (by omega) (by omega) (by decide) ?_)))
local macro_rules | `(tactic| walk_at "binaryOp FloorDiv int int") => `(tactic| (k_here; (with_reducible refine floordiv_int (by exact Int.ne_of_gt (pow_pos_of (by decide) _)) ?_ (Or.inl (PyProof.noPylong_of_log2 (by exact kbt_py (by omega)))))))
noncomputable def mtB (y : Int) (q : Int × Int) : Bool := decide (y.fdiv (2 ^ (3 - q.2).toNat) = q.1.fdiv (2 ^ (3 - q.2).toNat))
noncomputable def one2 (q : Int × Int) : Dat := .tuple [.int q.2, pd q]
theorem ones_ok (ls : List (Int × Int)) : ∀ d ∈ ls.map one2, kqdOk 8 d = true := fun d hd => by obtain ⟨i, _, rfl⟩ := List.mem_map.mp hd; rfl
local macro_rules | `(tactic| walk_at "ones") => `(tactic| exact ones_ok _)
local macro_rules | `(tactic| walk_at "call builtin:max") => `(tactic| (k_here; refine halt ?_))
theorem one2_inv {news : List (Addr × Obj)} {v : Value} {q : Int × Int} (h : DatIn news v (one2 q)) : ∃ a k t v2, v = .ref a ∧ (a, tupO [.int q.2 t, v2] k) ∈ news ∧ DatIn news v2 (pd q) := by
  obtain ⟨_, _, _, _, e, m, i, j⟩ := pair_inv h
  obtain ⟨_, rfl⟩ := int_inv i
  exact ⟨_, _, _, _, e, m, j⟩
/-- the rows that hold an address, no two of them alike in length -/
theorem mt_top {rs : List RowW} {y : Int} (hc : ∀ r ∈ rs, Cn r.1.1 r.1.2) (h0 : 0 ≤ y) (h8 : y < 8) {q : Int × Int} (hq : q ∈ (rs.map (·.1)).filter (mtB y)) : topZ y q.2 = q.1 := by
  refine cps fun Pz kz => ?_
  obtain ⟨h1, h2⟩ := List.mem_filter.mp hq
  obtain ⟨r, hr, rfl⟩ := List.mem_map.mp h1
  refine kz ?_
  clear kz Pz
  exact (match_Z (hc r hr) h0 h8).mp (of_decide_eq_true h2)
theorem mt_of {rs : List RowW} {y : Int} (hc : ∀ r ∈ rs, Cn r.1.1 r.1.2) (h0 : 0 ≤ y) (h8 : y < 8) {r : RowW} (hr : r ∈ rs) (ht : topZ y r.1.2 = r.1.1) : r.1 ∈ (rs.map (·.1)).filter (mtB y) :=
  List.mem_filter.mpr ⟨List.mem_map.mpr ⟨r, hr, rfl⟩, decide_eq_true ((match_Z (hc r hr) h0 h8).mpr ht)⟩
theorem ext_drop {A news X : List (Addr × Obj)} (e : Ext (A ++ news) X) : ∃ Z, Ext news Z ∧ (∀ q ∈ Z, q ∈ X) ∧ ∀ q ∈ X, IsTup q.2 → q ∈ Z := by
  classical
  refine ⟨X.filter fun q => decide (q ∈ news ∨ q.2.cls = .type "tuple"), ⟨fun q hq => List.mem_filter.mpr ⟨e.1 q (List.mem_append_right _ hq), decide_eq_true (.inl hq)⟩, fun q hq => of_decide_eq_true (List.mem_filter.mp hq).2⟩, fun q hq => (List.mem_filter.mp hq).1, fun q hq ht => List.mem_filter.mpr ⟨hq, decide_eq_true (.inr ?_)⟩⟩
  obtain ⟨_, _, h⟩ := ht
  rw [h]
theorem ite_beq {a b : Int} {P Q : Prop} {inst : Decidable ((a == b) = true)} (h1 : a = b → P) (h2 : ¬ a = b → Q) : if (a == b) = true then P else Q := by
  by_cases h : a = b
  · rw [if_pos (by simpa using h)]; exact h1 h
  · rw [if_neg (by simpa using h)]; exact h2 h
local macro_rules | `(tactic| walk_at "ite") => `(tactic| (k_here; (with_reducible refine ite_beq ?_ ?_) <;> intro _))
local macro_rules | `(tactic| walk_at "subscriptTail Name Constant ref int") => `(tactic| (k_here; (with_reducible show wpAny _ _ (subscriptTail _ _ (Value.ref _) (Value.int _ _)) _ _ _); walk_at "tuple item"))
local macro_rules | `(tactic| walk_at "subscriptTail Subscript") => `(tactic| (k_here; (with_reducible show wpAny _ _ (subscriptTail _ _ (Value.ref _) (Value.int _ _)) _ _ _); walk_at "tuple item"))
local macro_rules | `(tactic| walk_at "eval Name") => `(tactic| (k_here; k_dflt (refine' nameX_L ?F ?v ?_ ?a ?b; (case F => k_asm); (case a => rfl); (case b => rfl); (case v => first | rfl | assumption); k_whole)))
local macro_rules | `(tactic| walk_at "isTrue BoolOp") => `(tactic| (k_here; walk_at "own fold"))
local macro_rules | `(tactic| walk_at "eval Call") => `(tactic| (k_here; walk_at "own fold"))
local macro_rules | `(tactic| walk_at "isTrue Compare") => `(tactic| (k_here; walk_at "own fold"))
local macro_rules | `(tactic| walk_at "eval Tuple") => `(tactic| (k_here; walk_at "own fold"))
local macro_rules | `(tactic| walk_at "eval BinOp") => `(tactic| (k_here; walk_at "own fold"))
local macro_rules | `(tactic| walk_at "exec Assign") => `(tactic| (k_here; walk_at "own fold"))
local macro_rules | `(tactic| walk_at "eval Subscript") => `(tactic| (k_here; walk_at "own fold"))
theorem match_con (w : World) (d : Addr) (xs : List Row) (ep : Nat) (rs : List RowW) (y : Int) (ty : Tok) (news : List (Addr × Obj)) (T₁ : Tab PySem.Challenge.rw_rh0204_01.row.prog w news d xs ep) (hrs : rs.map (·.1) = xs.map (·.1)) (hz : rs.length ≤ 5) (hc : ∀ r ∈ rs, Cn r.1.1 r.1.2) (h0 : 0 ≤ y) (h8 : y < 8) :
    Con w 170 [.ref d, .int y ty] 8 200 news fun r news' => Ext news news' ∧ match lkR rs y with
      | none => r = .none
      | some q => DatIn news' r (pd q.1) := by
  unfold Con
  k_fill
  intro p loose mean mg mb dp un gd cn cs a ccd cl outer A₀ base h₀ L m s R B F X N T hk hdp hu hret
  walk_at "enter cells"
  k_steps
  unfold Halt
  with_reducible rename News _ _ _ _ => N1
  with_reducible rename Fr _ _ _ _ => F1
  rename_i g1 L1 h1 tk1 FG1 B1 X1 T1 l1 oc dc
  have dc : oc.data = .cell (some (.int y ty)) := dc
  have hlx : rs.length = xs.length := by have := congrArg List.length hrs; simpa using this
  refine AtSrc.intro (σ := List (Addr × Obj)) id (fun i ys X => Ext ((L1 + 1, oc) :: news) X ∧ DatAll X ys ((((xs.take i).map (·.1)).filter (mtB y)).map one2)) ((L1 + 1, oc) :: news) (by assumption) (by assumption) (fun _ h => h) (srcDict rfl T₁.lo (by assumption) (.tail _ T₁.mem) (by simp; omega)) (fun i ys X hj => hj.1.mem (.tail _ T₁.mem)) ⟨.refl _, .nil⟩ ?_ ?_
  · rintro i v ys X I oI C oC D m₂ h tk E' hi J9_14 J9_15 hC hx hI F2 N2 off ne
    refine cps fun Pz kz => ?_
    obtain ⟨e, he, rfl⟩ := J9_14
    obtain ⟨ex, dy⟩ := J9_15
    have hi' : i < xs.length := by simpa using hi
    have he' : e = entP PySem.Challenge.rw_rh0204_01.row.prog w xs[i] := by simp [hi'] at he; exact he.symm
    subst he'
    have hkey := T₁.keys _ (List.getElem_mem hi')
    obtain ⟨ka, kn, t1, t2, ek, hkm⟩ := pd_inv hkey
    have hki : (entP PySem.Challenge.rw_rh0204_01.row.prog w xs[i]).key = .ref ka := ek
    rw [hki] at hx
    have hcn : Cn xs[i].1.1 xs[i].1.2 := by
      have : xs[i].1 ∈ rs.map (·.1) := by rw [hrs]; exact List.mem_map.mpr ⟨_, List.getElem_mem hi', rfl⟩
      obtain ⟨r, hr, er⟩ := List.mem_map.mp this
      rw [← er]; exact hc r hr
    obtain ⟨c1, c2, c3, c4, c5⟩ := hcn
    refine kz ?_
    clear kz Pz
    have hmX : (ka, _) ∈ X := ex.mem (.tail _ hkm)
    have hcX : (L1 + 1, oc) ∈ X := ex.mem (.head _)
    have htk : (xs.take (i + 1)).map (·.1) = (xs.take i).map (·.1) ++ [xs[i].1] := by rw [List.take_succ_eq_append_getElem hi', List.map_append]; rfl
    generalize xs[i].1 = q at *
    obtain ⟨q1, q2⟩ := q
    dsimp only at c1 c2 c3 c4 c5 hmX
    unfold testsC
    refine wpAny_tests_one ?_
    k_steps
    all_goals unfold Halt
    · have eqm : mtB y (q1, q2) = true := decide_eq_true (by assumption)
      refine comp_out (by assumption) (by assumption) (Ext.add (.refl _) rfl) hC hI off fun Z hz1 hz2 hz3 => ⟨Z, rfl, ex.trans hz1, ?_⟩
      rw [htk, List.filter_append, List.map_append, List.filter_cons_of_pos eqm]
      exact (dy.mono hz1.1).append (.one (.tuple (hz2 _ (.head _) ⟨_, _, rfl⟩) (.cons (.int _ _) (.cons (.tuple (hz1.1 _ hmX) (.cons (.int _ _) (.cons (.int _ _) .nil))) .nil))))
    · have eqm : ¬ mtB y (q1, q2) = true := fun h => absurd (of_decide_eq_true h) (by assumption)
      refine comp_out (by assumption) (by assumption) (.refl _) hC hI off fun Z hz1 hz2 hz3 => ⟨Z, rfl, ex.trans hz1, ?_⟩
      rw [htk, List.filter_append, List.map_append, List.filter_cons_of_neg eqm]
      simpa using dy.mono hz1.1
  · rintro ys X ⟨ex, dy⟩ D h tk F2 N2 off
    have hlen : (List.map (entP PySem.Challenge.rw_rh0204_01.row.prog w) xs).toArray.size = xs.length := by simp
    rw [hlen, List.take_length, ← hrs] at dy
    have hfl : ((rs.map (·.1)).filter (mtB y)).length ≤ 5 := by have := List.length_filter_le (mtB y) (rs.map (·.1)); rw [List.length_map] at this; omega
    have hnd : ((rs.map (·.1)).filter (mtB y)).Nodup := by rw [hrs]; exact T₁.nodup.filter _
    have htop := fun q => mt_top (q := q) hc h0 h8
    have hmt := fun r => mt_of (r := r) hc h0 h8
    generalize hqs : (rs.map (·.1)).filter (mtB y) = qs at *
    clear hlen
    have hly := dy.length
    rw [List.length_map] at hly
    dsimp only [id] at N2
    refine cps fun Pz kz => ?_
    obtain ⟨Z, z1, z2, z3⟩ := ext_drop (A := [(L1 + 1, oc)]) ex
    refine kz ?_
    clear kz Pz
    k_steps
    · unfold Halt
      with_reducible rename News _ _ _ _ => N3
      have hne : qs ≠ [] := fun e => absurd (show qs.map one2 = [] by rw [e]; rfl) (by assumption)
      have item : ∀ i, i < ys.length → ∃ a k t v2, ys[i]? = some (.ref a) ∧ (a, tupO [.int (qs.getD i (0, 0)).2 t, v2] k) ∈ X ∧ DatIn X v2 (pd (qs.getD i (0, 0))) ∧ qs.getD i (0, 0) ∈ qs := by
        intro i hi
        have hi2 : i < qs.length := by omega
        obtain ⟨v, e, dv⟩ := dy.get (k := i) (by rw [List.length_map]; exact hi2)
        rw [List.getElem_map] at dv
        rw [show qs.getD i (0, 0) = qs[i] by simp [hi2]]
        obtain ⟨a, k, t, v2, rfl, hm, d2⟩ := one2_inv dv
        exact ⟨a, k, t, v2, e, hm, d2, List.getElem_mem hi2⟩
      refine max_tups (kf := fun i => (qs.getD i (0, 0)).2) rfl (by ktr_units) (by assumption) (by assumption) (by k_mem) (by rw [hly]; exact List.length_pos_iff.mpr hne) ⟨fun i hi => ?_, fun i j hi hj hij => ?_⟩ ?_
      · refine cps fun Pz kz => ?_
        obtain ⟨a, k, t, v2, e, hm, _, _⟩ := item i hi
        refine kz ?_
        clear kz Pz
        exact ⟨a, t, v2, k, e, N3.get (by k_mem)⟩
      · have hi2 : i < qs.length := by omega
        have hj2 : j < qs.length := by omega
        intro e
        have a1 := htop _ (List.getElem_mem hi2)
        have a2 := htop _ (List.getElem_mem hj2)
        rw [show qs.getD i (0, 0) = qs[i] by simp [hi2], show qs.getD j (0, 0) = qs[j] by simp [hj2]] at e
        exact nodup_ne hnd hi2 hj2 hij (Prod.ext (by rw [← a1, ← a2, e]) e)
      · intro b v h2 tk2 F4 N4 hb hv hmax
        refine cps fun Pz kz => ?_
        obtain ⟨a, k, t, v2, e, hm, d2, hq⟩ := item b hb
        obtain rfl : v = .ref a := Option.some.inj (hv.symm.trans e)
        refine kz ?_
        clear kz Pz
        generalize hqb : qs.getD b (0, 0) = q at *
        k_steps
        with_reducible rename News _ _ _ _ => N5
        refine hret _ Z _ _ (by assumption) (fun q hq => N5 q (by have := z2 q hq; k_mem)) ⟨z1, ?_⟩
        have hq' := hq
        rw [← hqs] at hq'
        refine cps fun Pz kz => ?_
        obtain ⟨r, hr, rfl⟩ := List.mem_map.mp (List.mem_filter.mp hq').1
        refine kz ?_
        clear kz Pz
        rw [lkR_max (r := r) (hrs ▸ T₁.nodup) hr (hc r hr) (htop _ hq) fun r' hr' ht => ?_]
        · exact dat_tup z3 d2 (by simp [NoL, NoLs])
        · obtain ⟨i, hi, ei⟩ := List.mem_iff_getElem.mp (hmt r' hr' ht)
          have := hmax i (by omega)
          rw [show qs.getD i (0, 0) = qs[i] by simp [hi], ei] at this
          exact this
    · with_reducible rename News _ _ _ _ => N5
      refine hret _ Z _ _ (by assumption) (fun q hq => N5 q (by have := z2 q hq; k_mem)) ⟨z1, ?_⟩
      have hq0 : qs = [] := List.map_eq_nil_iff.mp (by assumption)
      rw [lkR_none fun r hr ht => ?_]
      have := hmt r hr ht
      rw [hq0] at this
      cases this
end
section
theorem fresh34 : True := by w_top off; trivial
open LCg

/-- wherever these lie, the items vs lie at b -/
noncomputable def TupAt (news : List (Addr × Obj)) (b : Addr) (vs : List Value) : Prop := ∀ g : Heap, (∀ q ∈ news, g.get? q.1 = some q.2) → (∃ n, g.get? 22 = some { cls := .type "tuple", data := .seq #[] n }) → PyProof.Rows.IsTup g b vs.toArray
section
variable {prog : Program} {w : World} {A : Around} {E : Value → Shared → Prop} {s : Shared} {h₀ : Heap} {L : Addr} {news n₁ n₂ : List (Addr × Obj)} {m : Str → Option Value}
theorem TupAt.at {b : Addr} {vs : List Value} {nb : Nat} (H : TupAt n₁ b vs) (F : Fr h₀ L s.heap m) (N : News h₀ L s.heap news) (h22 : h₀.get? 22 = some { cls := .type "tuple", data := .seq #[] nb }) (s1 : ∀ q ∈ n₁, q ∈ news) : PyProof.Rows.IsTup s.heap b vs.toArray :=
  H _ (fun q hq => N.get (s1 q hq)) ⟨_, F.keep _ _ h22⟩
open Classical in
theorem in_tup {b : Addr} {vs : List Value} {ps : List (Int × Int)} {p : Int × Int} {v : Value} {Q : Value → Shared → Prop} (N : News h₀ L s.heap news := by k_asm) (ht : PyProof.Rows.IsTup s.heap b vs.toArray := by refine' TupAt.at (by assumption) (by k_asm) (by k_asm) (by assumption) (by walk_at "sub")) (hd : DatAll n₁ vs (ps.map pd) := by assumption) (s1 : ∀ q ∈ n₁, q ∈ news := by walk_at "sub") (hp : DatIn n₂ v (pd p) := by assumption) (s2 : ∀ q ∈ n₂, q ∈ news := by walk_at "sub") (hu : A.units + 64 < cLine := by ktr_units)
    (h1 : p ∈ ps → Q (.bool true) s) (h2 : p ∉ ps → Q (.bool false) s) : wpAny (model prog w) A (compareOp .In v (.ref b)) Q E s := by
  obtain ⟨o, ho, hc, n, hdat⟩ := ht
  have ha := pds_ok ps
  obtain ⟨as, ra⟩ := kqd_all N 8 (hd.mono s1) ha
  obtain ⟨bs, rx⟩ := kqd_in N 8 (hp.mono s2) (pd_ok p)
  have l := kqd_layL ha
  have ld := kqd_lay 8 (pd p) (pd_ok p)
  have e : ((kqdPs (ps.map pd)).any fun y => PyData.eqv y (kqdP (pd p))) = decide (p ∈ ps) := by
    by_cases hq : p ∈ ps
    · rw [decide_eq_true hq]; exact (kqd_any _ _ ha (pd_ok p)).mpr (pd_mem.mpr hq)
    · rw [decide_eq_false hq]; exact Bool.eq_false_iff.mpr fun z => hq (pd_mem.mp ((kqd_any _ _ ha (pd_ok p)).mp z))
  have l2 := ld.2
  refine SeqAt.in_tuple_reads (reads_tuple_at ho hc hdat (by simpa using ra)) rx l.1 ld.1 ?_ ?_
  · have := Nat.min_le_right (PyData.depthAll (kqdPs (ps.map pd))) (kqdP (pd p)).depth
    omega
  · rw [e]
    by_cases hq : p ∈ ps
    · rw [decide_eq_true hq]; exact h1 hq
    · rw [decide_eq_false hq]; exact h2 hq
end
theorem hopV_at {news : List (Addr × Obj)} {b : Addr} {ps : List (Int × Int)} (h : HopV news (.ref b) ps) : ∃ vs, DatAll news vs (ps.map pd) ∧ TupAt news b vs := by
  rcases h with h | ⟨h, rfl⟩
  · obtain ⟨a, vs, k, e, hm, hd⟩ := dat_tuple_inv h
    cases e
    exact ⟨vs, hd, fun g hg _ => ⟨_, hg _ hm, rfl, k, rfl⟩⟩
  · cases h
    exact ⟨[], .nil, fun g _ ⟨n, h22⟩ => ⟨_, h22, rfl, n, rfl⟩⟩

theorem ext_cell {h₀ h : Heap} {L c : Addr} {o : Obj} {v : Option Value} {X Y : List (Addr × Obj)} (N : News h₀ L h Y) (e : Ext ((c, o) :: X) Y) (hX : ∀ q ∈ X, @Ne Nat q.1 c) (hd : o.data = .cell v) :
    ∃ Z, News h₀ L h ((c, o) :: Z) ∧ (∀ q ∈ Z, q.1 ≠ c) ∧ Ext X Z ∧ ∀ q ∈ Y, IsTup q.2 → q ∈ Z := by
  obtain ⟨Z, NZ, z1, z2, z3⟩ := led_front N (e.mem (.head _))
  refine ⟨Z, NZ, z1, ⟨fun q hq => z2 q (e.mem (.tail _ hq)) (hX q hq), fun q hq => ?_⟩, fun q hq ht => z2 q hq fun ec => ?_⟩
  · rcases e.2 q (z3 q hq) with h1 | h1
    · rcases List.mem_cons.mp h1 with rfl | h1
      · exact absurd rfl (z1 _ hq)
      · exact .inl h1
    · exact .inr h1
  · have h1 : (c, q.2) ∈ Y := ec ▸ hq
    have h2 := led_fn N (e.mem (.head _)) h1
    obtain ⟨xs, n, h3⟩ := ht
    rw [h2, h3] at hd
    cases hd
theorem noL_ints : ∀ gs : List Int, NoLs (gs.map .int)
  | [] => by simp [NoLs]
  | g :: gs => by simp [NoLs, NoL, noL_ints gs]
theorem noL_pds : ∀ ps : List (Int × Int), NoLs (ps.map pd)
  | [] => by simp [NoLs]
  | g :: gs => by simp [NoLs, NoL, noL_pds gs]
theorem noL_wo (wo : Wo) : NoL wo.dat := by cases wo <;> simp [Wo.dat, NoL, NoLs, noL_ints]
theorem noL_hit (r : Hit) : NoL (hitD r) := by
  cases r with
  | none => simp [hitD, NoL]
  | some pw => obtain ⟨p, wo⟩ := pw; simp [hitD, NoL, NoLs, noL_wo]
theorem HopV.tup {X Z : List (Addr × Obj)} {v : Value} {ps : List (Int × Int)} (hs : ∀ q ∈ X, IsTup q.2 → q ∈ Z) (h : HopV X v ps) : HopV Z v ps := h.imp (fun h => dat_tup hs h (by rw [NoL]; exact noL_pds ps)) id
section
variable {prog : Program} {w : World} {A : Around} {E : Value → Shared → Prop} {s : Shared} {h₀ : Heap} {L : Addr} {news n₁ n₂ : List (Addr × Obj)} {m : Str → Option Value}
theorem add_ahead {b t1 : Addr} {u : Value} {k : Nat} {vs : List Value} {ps : List (Int × Int)} {p : Int × Int} {Q : Value → Shared → Prop} (F : Fr h₀ L s.heap m) (N : News h₀ L s.heap news) (ht : PyProof.Rows.IsTup s.heap b vs.toArray) (hm : (t1, tupO [u] k) ∈ news) (hd : DatAll n₁ vs (ps.map pd)) (s1 : ∀ q ∈ n₁, q ∈ news) (hp : DatIn n₂ u (pd p)) (s2 : ∀ q ∈ n₂, q ∈ news) (hz : vs.length ≤ 100)
    (h : ∀ r h' news', Fr h₀ L h' m → News h₀ L h' news' → Ext news news' → DatIn news' r (.tuple ((ps ++ [p]).map pd)) → Q r { s with heap := h' }) : wpAny (model prog w) A (binaryOp .Add (.ref b) (.ref t1)) Q E s := by
  refine PyProof.Rows.add_tuples (ws := [u]) F N ht ⟨_, N.get hm, rfl, k, rfl⟩ (fun e => ?_) (fun _ e => (nomatch e)) (fun _ _ h' F' N' => ?_) (by rw [sizeLine_eq]; simp only [List.length_singleton]; omega)
  · subst e
    cases ps with
    | nil => exact h _ _ news F N (.refl _) (.tuple hm (.one (hp.mono s2)))
    | cons _ _ => cases hd
  · refine h _ h' _ F' N' (.add (.refl _) rfl) (.tuple (.head _) ?_)
    rw [List.map_append]
    exact (hd.mono fun q hq => .tail _ (s1 q hq)).append (.one (hp.mono fun q hq => .tail _ (s2 q hq)))
end
theorem reach_rg {lk : Int → Hit} {most : Int} (hlk2 : ∀ y p wo, lk y = some (p, wo) → wo.ok) {a : Int} {ahead : List (Int × Int)} {h : Int × Int} (r : Reach lk most a ahead h) : 0 ≤ a → a < 8 → 0 ≤ h.1 ∧ h.1 < 3 ∧ 0 ≤ h.2 ∧ h.2 < 8 := by
  induction r with
  | direct h1 _ _ => intro h0 h8; have := hlk2 _ _ _ h1; exact ⟨this.1, this.2, h0, h8⟩
  | via h1 _ _ h4 _ ih => intro _ _; have := (hlk2 _ _ _ h1).2 _ h4; exact ih this.1 this.2
noncomputable def allHops : List (Int × Int) := (List.range 24).map fun i => ((i / 8 : Nat), (i % 8 : Nat))
theorem allHops_mem {h : Int × Int} (h1 : 0 ≤ h.1) (h2 : h.1 < 3) (h3 : 0 ≤ h.2) (h4 : h.2 < 8) : h ∈ allHops := by
  obtain ⟨a, ha⟩ := Int.eq_ofNat_of_zero_le h1
  obtain ⟨b, hb⟩ := Int.eq_ofNat_of_zero_le h3
  have e : ∀ a : Fin 3, ∀ b : Fin 8, (((a.val : Nat) : Int), ((b.val : Nat) : Int)) ∈ allHops := by decide +kernel
  have := e ⟨a, by omega⟩ ⟨b, by omega⟩
  rwa [show h = ((a : Int), (b : Int)) from Prod.ext ha hb]
theorem asc_nodup {q : List (Int × Int)} (h : Asc q) : q.Nodup := List.Pairwise.imp (fun h e => by rw [e] at h; exact absurd h (Int.lt_irrefl _)) h
theorem asc_len {q : List (Int × Int)} (h : Asc q) (hr : ∀ p ∈ q, 0 ≤ p.1 ∧ p.1 < 3 ∧ 0 ≤ p.2 ∧ p.2 < 8) : q.length ≤ 24 := by
  have := len_sub q allHops (asc_nodup h) fun p hp => by obtain ⟨a, b, c, d⟩ := hr p hp; exact allHops_mem a b c d
  simpa [allHops] using this
end
section
open LCg
theorem draw_call {w : World} {pa c : Addr} {cells : List Value} {ns : List Int} {spot many : Int} {t t2 : Tok} {n k : Nat} {led : List (Addr × Obj)} {g : Obj → List (Addr × Obj)}
    {p : Program} {loose : List Str} {mean : ExcName → Option Value} {mg mb : Str → Option Value} {dp un : Nat} {gd : Option (List Code)} {cn : Str} {cs : Scope} {a : Addr} {ccd : Value} {cl : List (Str × Addr)} {outer : List Env} {A₀ : Around} {base h₀ : Heap} {L : Addr} {m : Str → Option Value} {s : Shared} {Q E : Value → Shared → Prop}
    (U : UpdF pa (listOf #[.ref c, .int spot t] n) led g) (hmc : (c, listOf cells.toArray k) ∈ led) (hcp : @Ne Nat pa c)
    (hc : IntsAre cells ns) (hs : 0 ≤ spot) (hs2 : spot < 1000) (hm : 0 < many) (hm2 : many < 100) (hl : ns.length ≤ 63) 
    (h : ∀ d tk t' n' h' tk', 0 ≤ d → d < many → Fr h₀ L h' m → News h₀ L h' (g (listOf #[.ref c, .int (spot + 1) t'] n')) → Q (.int d tk) { s with heap := h', toks := tk' })
    (B : Below A₀ base outer h₀ := by k_asm) (F : Fr h₀ L s.heap m := by k_asm) (X : (hd.heap_1 w.params).In h₀ := by k_asm) (N : News h₀ L s.heap led := by k_asm) (T : Top p loose mean mg mb h₀ := by k_asm) (hk : cs.kind = .function := by first | exact rfl | assumption) (hd' : dp + 2 < recursionLimit := by ktr_room) (hu : un + 20 < cLine := by ktr_units) :
    wpAny (model PySem.Challenge.rw_rh0204_01.row.prog w) (ktrTop dp un gd cn cs L a ccd cl outer) (call (.ref 160) [.ref pa, .int many t2]) Q E s := by
  obtain ⟨pre, post, e, hg, h1, h2⟩ := U.split
  subst e
  refine con_call B F X (news := (pa, listOf #[.ref c, .int spot t] n) :: (c, listOf cells.toArray k) :: (pre ++ post)) (fun q hq => N q ?_) T (draw_con w pa c cells ns spot t t2 n k (pre ++ post) many hc hs hs2 hm hm2 hl hcp ?_) hk hd' hu ?_
  · revert q
    refine fa ?_ (fa ?_ (fapp (fun q hq => ?_) fun q hq => ?_))
    · exact List.mem_append_right _ (.head _)
    · exact hmc
    · exact List.mem_append_left _ hq
    · exact List.mem_append_right _ (.tail _ hq)
  · refine fapp (fun q hq => ?_) fun q hq => ?_
    · exact h1 q hq
    · exact h2 q hq
  · rintro r news' h' tk' F' N' ⟨d, tk, t', n', rfl, h0, hlt, rfl⟩
    refine h d tk t' n' h' tk' h0 hlt F' fun q hq => N' q ?_
    rw [hg] at hq
    revert q
    refine fapp (fun q hq => ?_) (fa ?_ fun q hq => ?_)
    · exact .tail _ (.tail _ (List.mem_append_left _ hq))
    · exact .head _
    · exact .tail _ (.tail _ (List.mem_append_right _ hq))
theorem off_ext {h₀ h : Heap} {L p : Addr} {o : Obj} {led news X : List (Addr × Obj)} (N : News h₀ L h led) (hp : (p, o) ∈ led) (ho : o.cls ≠ .type "tuple") (e : Ext news X) (hX : ∀ q ∈ X, q ∈ led) (h0 : ∀ q ∈ news, q.1 ≠ p) : ∀ q ∈ X, q.1 ≠ p := fun q hq ec => by
  rcases e.2 q hq with h1 | h1
  · exact h0 q h1 ec
  · have h2 : (p, q.2) ∈ led := ec ▸ hX q hq
    exact ho (by rw [led_fn N hp h2]; exact h1)
theorem pow_lo {l : Int} : (0 : Int) < 2 ^ l.toNat := Int.pow_pos (by decide)
theorem pow_hi {l : Int} (h : l ≤ 3) : (2 : Int) ^ l.toNat ≤ 8 := by
  have : l.toNat = 0 ∨ l.toNat = 1 ∨ l.toNat = 2 ∨ l.toNat = 3 := by omega
  rcases this with e | e | e | e <;> rw [e] <;> decide
/-- a row of the dict stands for a row of the table -/
noncomputable def RowOk (X : List (Addr × Obj)) (x : Row) (r : RowW) : Prop := x.1 = r.1 ∧ DatIn X x.2.2 r.2.dat
theorem RowOk.mono {X Z : List (Addr × Obj)} (hs : ∀ q ∈ X, IsTup q.2 → q ∈ Z) {x : Row} {r : RowW} (h : RowOk X x r) : RowOk Z x r := ⟨h.1, dat_tup hs h.2 (noL_wo _)⟩
theorem rows_keys {X : List (Addr × Obj)} {xs : List Row} {rs : List RowW} (h : Paired (RowOk X) xs rs) : rs.map (·.1) = xs.map (·.1) := by
  induction h with
  | nil => rfl
  | cons hd _ ih => rw [List.map_cons, List.map_cons, ih, hd.1]
theorem rows_put {X : List (Addr × Obj)} {xs : List Row} {rs : List RowW} (h : Paired (RowOk X) xs rs) (k : Int × Int) (a : Addr) (v : Value) (wo : Wo) (hv : DatIn X v wo.dat) : ∃ rs', Paired (RowOk X) (tabPut xs k a v) rs' ∧ ∀ r ∈ rs', r ∈ rs ∨ r = (k, wo) := by
  unfold tabPut
  by_cases hk : (tabLook xs k).isSome = true
  · rw [if_pos hk]
    refine ⟨rs.map fun r => if r.1 = k then (k, wo) else r, ?_, fun r hr => ?_⟩
    · clear hk
      induction h with
      | nil => exact .nil
      | @cons x r xs rs hd _ ih =>
        rw [List.map_cons, List.map_cons]
        refine .cons ?_ ih
        by_cases e : x.1 = k
        · rw [if_pos e, if_pos (by rw [← hd.1]; exact e)]; exact ⟨e, hv⟩
        · rw [if_neg e, if_neg (by rw [← hd.1]; exact e)]; exact hd
    · obtain ⟨q, hq, e⟩ := List.mem_map.mp hr
      by_cases hc : q.1 = k
      · rw [if_pos hc] at e; exact .inr e.symm
      · rw [if_neg hc] at e; exact .inl (e ▸ hq)
  · rw [if_neg hk]
    refine ⟨rs ++ [(k, wo)], h.snoc ⟨rfl, hv⟩, fun r hr => ?_⟩
    revert r
    refine fapp (fun r hr => ?_) fun r hr => ?_
    · exact .inl hr
    · exact .inr (List.mem_singleton.mp hr)
section
variable {prog : Program} {w : World} {A : Around} {E : Value → Shared → Prop} {s : Shared} {env : Env} {h₀ : Heap} {Q : Flow → Shared → Prop}
theorem for_range {σ : Type} {x : Str} {body : List Stmt} {r : Addr} {a b : Int} {t u v : Tok} {n : Nat} {m₀ : Str → Option Value} {news : List (Addr × Obj)}
    (ps : σ → List (Str × Value)) (stored : List Str) (Led : σ → List (Addr × Obj)) (J : Nat → σ → Prop) (c₀ : σ) (hh : A.handled = none)
    (hr : IsRange s.heap r a b 1 t u v) (hsm : Builtin.Range.small a b 1 = true) (hz : Builtin.Range.rangeSize a b 1 = ((n : Nat) : Int)) (F : Fr h₀ env.locals s.heap m₀) (N : News h₀ env.locals s.heap news) (hn : ∀ p ∈ Led c₀, p ∈ news) (hk : ∀ p ∈ ps c₀, m₀ p.1 = some p.2) (hj : J 0 c₀)
    (turns : Turns prog w A env h₀ x body Q s ps stored m₀ Led J n (fun i v => ∃ t, v = .int (a + (i : Int)) t)) :
    wpAny (model prog w) A (pyIter (.ref r)) (fun it s₂ => LoopAtV prog w A h₀ env x body Q E it s₂) E s := by
  refine wpAny_pyIter_range hr hsm ?_
  have hlt : ∀ q ∈ news, q.1 < s.heap.objs.size := fun q hq => Heap.lt_size (N q hq).1
  refine forWalk (news := news) ps stored Led J c₀ (range_walks hh a n) (fun b hb => .inl (List.mem_singleton.mp hb)) ?_ ?_ (fun i h st => ⟨_, st, ?_⟩) (by show IsRangeIter _ _ _ _ _; rw [hz]; simpa using Heap.get?_push_size _ rfl) (F.push _) (N.grown fun b o e => Heap.get?_push_of_some _ e) hn ?_ hk hj turns.1 turns.2
  · intro hm
    exact absurd F.ns.lt ((List.mem_singleton.mp hm) ▸ Nat.lt_irrefl _)
  · exact Heap.get?_none_of_le (Nat.le_trans F.above (Nat.le_of_lt F.ns.lt))
  · intro e; exact absurd (Value.type.inj e) (by decide)
  · exact fun p hp => Nat.ne_of_lt (hlt p (hn p hp))
end
end
section
theorem fresh36 : True := by w_top off; trivial
open LCg

local macro_rules | `(tactic| walk_at "AtSrc") => `(tactic| (k_here; refine halt ?_))
local macro_rules | `(tactic| walk_at "CompEnd") => `(tactic| (k_here; refine halt ?_))
local macro_rules | `(tactic| walk_at "compareOp In ref ref") => `(tactic| (k_here; k_dflt (refine' in_tup (h1 := ?_) (h2 := ?_)); all_goals intro hin9))
local macro_rules | `(tactic| walk_at "call builtin:len") => `(tactic| (k_here; k_dflt (refine' PyProof.Rows.len_tuple (by refine' TupAt.at (by assumption) (by k_asm) (by k_asm) (by assumption) (by walk_at "sub")) (by omega) ?_)))
local macro_rules | `(tactic| walk_at "binaryOp Add ref ref") => `(tactic| (k_here; refine halt ?_))
local macro_rules | `(tactic| walk_at "call ref") => `(tactic| (k_here; refine halt ?_))
local macro_rules | `(tactic| k_updF) => `(tactic| exact UpdF.head (by assumption))
theorem paired_get {α β : Type} {R : α → β → Prop} {xs : List α} {ys : List β} (h : Paired R xs ys) : ∀ (i : Nat) (x : α) (y : β), xs[i]? = some x → ys[i]? = some y → R x y := by
  induction h with
  | nil => intro i x y e _; cases e
  | cons hd _ ih =>
    intro i x y e1 e2
    cases i with
    | zero => cases e1; cases e2; exact hd
    | succ i => exact ih i x y (by simpa using e1) (by simpa using e2)
theorem paired_mono {α β : Type} {R R' : α → β → Prop} (hr : ∀ x y, R x y → R' x y) {xs : List α} {ys : List β} (h : Paired R xs ys) : Paired R' xs ys := by
  induction h with
  | nil => exact .nil
  | cons hd _ ih => exact .cons (hr _ _ hd) ih
theorem paired_ex {α β : Type} {R : α → β → Prop} {xs : List α} {ys : List β} (h : Paired R xs ys) : (∀ x ∈ xs, ∃ y ∈ ys, R x y) ∧ ∀ y ∈ ys, ∃ x ∈ xs, R x y := by
  induction h with
  | nil => exact ⟨fun _ h => (nomatch h), fun _ h => (nomatch h)⟩
  | cons hd _ ih =>
    refine ⟨fun x hx => ?_, fun y hy => ?_⟩
    · revert x
      refine fa ?_ fun x hx => ?_
      · exact ⟨_, .head _, hd⟩
      · obtain ⟨y, h1, h2⟩ := ih.1 x hx; exact ⟨y, .tail _ h1, h2⟩
    · revert y
      refine fa ?_ fun y hy => ?_
      · exact ⟨_, .head _, hd⟩
      · obtain ⟨x, h1, h2⟩ := ih.2 y hy; exact ⟨x, .tail _ h1, h2⟩
theorem sum_len_le {qss : List (List (Int × Int))} {c : Nat} (h : ∀ q ∈ qss, q.length ≤ c) : (qss.map List.length).sum ≤ c * qss.length := by
  induction qss with
  | nil => simp
  | cons q r ih =>
    have a := h q (.head _)
    have b := ih fun q hq => h q (.tail _ hq)
    simp only [List.map_cons, List.sum_cons, List.length_cons]
    rw [Nat.mul_add, Nat.mul_one]
    omega
theorem Ext.cons {p : Addr × Obj} {A B : List (Addr × Obj)} (e : Ext A B) : Ext (p :: A) (p :: B) := ⟨fun q hq => by
    revert q
    refine fa ?_ fun q hq => ?_
    · exact .head _
    · exact .tail _ (e.1 q hq), fun q hq => by
    revert q
    refine fa ?_ fun q hq => ?_
    · exact .inl (.head _)
    · exact (e.2 q hq).imp (.tail _) id⟩
theorem ext_news {h₀ h : Heap} {L : Addr} {A X : List (Addr × Obj)} (_ : News h₀ L h X) (e : Ext A X) : Ext A X := e
local macro_rules | `(tactic| walk_at "subscriptTail Name Constant ref int") => `(tactic| (k_here; (with_reducible show wpAny _ _ (subscriptTail _ _ (Value.ref _) (Value.int _ _)) _ _ _); walk_at "tuple item"))
local macro_rules | `(tactic| walk_at "subscriptTail Subscript") => `(tactic| (k_here; (with_reducible show wpAny _ _ (subscriptTail _ _ (Value.ref _) (Value.int _ _)) _ _ _); walk_at "tuple item"))
local macro_rules | `(tactic| walk_at "eval Name") => `(tactic| (k_here; k_dflt (refine' nameX_L ?F ?v ?_ ?a ?b; (case F => k_asm); (case a => rfl); (case b => rfl); (case v => first | rfl | assumption); k_whole)))
local macro_rules | `(tactic| walk_at "exec If") => `(tactic| (k_here; (with_reducible rename HaltIf => hI9); (with_reducible show wpAny _ _ (PySem.exec (.If (.Compare _ _ _ _) _ _ _) _) _ _ _); refine halt ?_))
theorem hops_con (w : World) (bm x dx : Addr) (hb ht : Int) (tb tt t3 : Tok) (n0 : Nat) (t : Tree) (v : Value) (lk : Int → Hit) (tab : List (Int × Int)) (most : Int) (tm : Tok)
    (hok : t.ok) (hokW : t.okW) (hlk : ∀ y, 0 ≤ y → y < 8 → lookGo y .none t = hitD (lk y)) (hlk2 : ∀ y p wo, lk y = some (p, wo) → p ∈ tab ∧ wo.ok) (htab : tab.length ≤ 5) (hm0 : -10 < most) (hm : most < 10000000) :
    ∀ (n : Nat) (addr : Int) (ta : Tok) (av : Value) (ahead : List (Int × Int)) (news : List (Addr × Obj)), 
    DatIn news v t.dat → (bm, methodObj (.ref 132) (.ref x)) ∈ news → (x, instObj 149 dx) ∈ news → (dx, dictOf (instD hb ht tb tt t3 v) n0) ∈ news →
    0 ≤ addr → addr < 8 → HopV news av ahead → ahead.Nodup → (∀ p ∈ ahead, p ∈ tab) → ahead.length + n = tab.length →
    Con w 34 [.ref bm, .int addr ta, av, .int most tm] (n + 12) (20 * n + 200) news fun r news' => Ext news news' ∧ ∃ ps, HopV news' r ps ∧ Asc ps ∧ ∀ h, h ∈ ps ↔ Reach lk most addr ahead h := by
  intro n
  induction n using Nat.strongRecOn with
  | _ n ih =>
  intro addr ta av ahead news hv hbm hx hdx ha0 ha8 hav hnd hsub hlen
  refine cps fun Pz kz => ?_
  obtain ⟨b, rfl⟩ : ∃ b, av = .ref b := by rcases hav with h | ⟨h, _⟩; obtain ⟨a, vs, k, rfl, _⟩ := dat_tuple_inv h; exact ⟨_, rfl⟩; exact ⟨_, h⟩
  obtain ⟨avs, had, hat⟩ := hopV_at hav
  refine kz ?_
  clear kz Pz
  unfold Con
  k_fill
  intro p loose mean mg mb dp un gd cn cs a ccd cl outer A₀ base h₀ L m s R B F X N T hk hdp hu hret
  walk_at "enter cells"
  with_reducible rename News _ _ _ _ => N1
  with_reducible rename Fr _ _ _ _ => F1
  rename_i g1 L1 h1 tk1 FG1 B1 X1 T1 l1 oc1 oc2 oc3 oc4 d1 d2 d3 d4
  have d1 : oc1.data = .cell none := d1
  have d2 : oc2.data = .cell (some (.int most tm)) := d2
  have d3 : oc3.data = .cell (some (.ref b)) := d3
  have d4 : oc4.data = .cell (some (.ref bm)) := d4
  obtain ⟨nb, hnb⟩ := no_hops X1
  k_steps
  unfold Halt
  walk_at "look call"
  intro r9 news9 h9 tk9 F9 N9 P9
  refine cps fun Pz kz => ?_
  obtain ⟨ex9, d9⟩ := P9
  rw [hlk _ ha0 ha8] at d9
  have hlki2 := hlk2 addr
  obtain ⟨Y, NY, y1, eY, y2⟩ := ext_cell N9 ex9 (by
    refine fa ?_ (fa ?_ (fa ?_ fun q hq => ?_))
    · exact Nat.ne_of_lt (Nat.lt_succ_self _)
    · exact Nat.ne_of_lt (Nat.lt_succ_of_lt (Nat.lt_succ_self _))
    · exact Nat.ne_of_lt (Nat.lt_succ_of_lt (Nat.lt_succ_of_lt (Nat.lt_succ_self _)))
    · exact Nat.ne_of_lt (Nat.lt_succ_of_lt (Nat.lt_succ_of_lt (Nat.lt_succ_of_lt (Nat.lt_succ_of_lt (l1 q hq)))))) d1
  have d9 := dat_tup y2 d9 (noL_hit _)
  clear N9 ex9 y2
  have hsz := had.length
  rw [List.length_map] at hsz
  have hsz2 : avs.toArray.size = ahead.length := by rw [List.size_toArray]; exact hsz
  obtain ⟨Z, z1, z2, z3⟩ := ext_drop (A := [(L1 + 1 + 1 + 1, oc2), (L1 + 1 + 1, oc3), (L1 + 1, oc4)]) eY
  refine kz ?_
  clear kz Pz
  cases hg : lk addr with
  | none =>
    rw [hg] at d9
    cases d9
    k_steps
    with_reducible rename News _ _ _ _ => N5
    refine hret _ Z _ _ (by assumption) (fun q hq => N5 q (by have := z2 q hq; k_mem)) ⟨z1, [], .inr ⟨rfl, rfl⟩, .nil, fun h => ⟨fun h => (nomatch h), fun h => ?_⟩⟩
    cases h with
    | direct e _ _ => rw [hg] at e; cases e
    | via e _ _ _ _ => rw [hg] at e; cases e
  | some pw =>
    refine cps fun Pz kz => ?_
    obtain ⟨pp, wo⟩ := pw
    rw [hg] at d9
    obtain ⟨ra, rk, v1, v2, rfl, hra, dv1, dv2⟩ := hit_inv d9
    obtain ⟨hpt, hwo⟩ := hlki2 _ _ hg
    have hret22 : ∀ h' tk', Fr h₀ L h' m → News h₀ L h' Y → (pp ∈ ahead ∨ most ≤ ahead.length ∨ wo = .sink) → R (.ok (.ret (.ref 22))) { s with heap := h', toks := tk' } := fun h' tk' F5 N5 hno => by
      refine hret _ Z _ _ F5 (fun q hq => N5 q (z2 q hq)) ⟨z1, [], .inr ⟨rfl, rfl⟩, .nil, fun h => ⟨fun h => (nomatch h), fun h => ?_⟩⟩
      cases h with
      | direct e e2 e3 =>
        rw [hg] at e; cases e
        rcases hno with h | h | h
        · exact absurd h e2
        · omega
        · cases h
      | via e e2 e3 _ _ =>
        rw [hg] at e; cases e
        rcases hno with h | h | h
        · exact absurd h e2
        · omega
        · cases h
    obtain ⟨w1, yk1, i1, i2, rfl, hw1⟩ := pd_inv dv1
    obtain ⟨w2, yk2, rfl, hwm⟩ := wo_inv dv2
    refine kz ?_
    clear kz Pz
    have hI : HaltIf := trivial
    k_steps
    · (with_reducible rename News _ _ _ _ => N5); exact hret22 _ _ (by assumption) (fun q hq => N5 q (by k_mem)) (.inl (by assumption))
    · (with_reducible rename News _ _ _ _ => N5); exact hret22 _ _ (by assumption) (fun q hq => N5 q (by k_mem)) (.inr (.inl (by omega)))
    · unfold Halt
      with_reducible rename HaltIf => hI
      clear hI
      cases wo with
      | via gs =>
        refine cps fun Pz kz => ?_
        obtain ⟨tv, v3, hwm, dgs⟩ := hwm
        obtain ⟨w3, vs3, yk3, rfl, hw3, dvs3⟩ := dat_tuple_inv dgs
        refine kz ?_
        clear kz Pz
        k_steps
        unfold Halt
        with_reducible rename News _ _ _ _ => N5
        with_reducible rename Fr _ _ _ _ => F5
        rename_i co d5 h5 tk5
        have hin : pp ∉ ahead := by assumption
        have hlt : (ahead.length : Int) < most := by omega
        have hnd' : (ahead ++ [pp]).Nodup := nd_snoc hnd hin
        have hsub' : ∀ p ∈ ahead ++ [pp], p ∈ tab := fun q hq => by
          revert q
          refine fapp (fun q hq => ?_) fun q hq => ?_
          · exact hsub q hq
          · rw [List.mem_singleton.mp hq]; exact hpt
        have hl1 := len_sub _ _ hnd' hsub'
        rw [List.length_append, List.length_singleton] at hl1
        have hz3 := dvs3.length
        rw [List.length_map] at hz3
        have hwo1 : gs.length ≤ 2 := hwo.1
        have hw1' := hw1
        refine AtSrc.intro (σ := List (Addr × Obj)) id (fun i ys X => Ext ((L1 + 1 + 1 + 1 + 1, co) :: Y) X ∧ ∃ qss, Paired (HopV X) ys qss ∧ Paired (fun g q => Asc q ∧ ∀ h, h ∈ q ↔ Reach lk most g (ahead ++ [pp]) h) (gs.take i) qss) ((L1 + 1 + 1 + 1 + 1, co) :: Y) (by assumption) (by assumption) (fun _ h => h) (srcTuple rfl N5 (.tail _ hw3) (by omega)) (fun i ys X hj => hj.1.mem (.tail _ hw3)) ⟨.refl _, [], .nil, .nil⟩ ?_ ?_
        · rintro i gv ys X I oI C oC D m₂ h tk E' hi hgv J9_15 hC hgx hI F2 N2 off ne
          refine cps fun Pz kz => ?_
          obtain ⟨ex, qss, hp1, hp2⟩ := J9_15
          have hi' : i < gs.length := by omega
          obtain ⟨v', ev, dv⟩ := dvs3.get (k := i) (by rw [List.length_map]; exact hi')
          obtain rfl : v' = gv := Option.some.inj (ev.symm.trans hgv)
          rw [List.getElem_map] at dv
          obtain ⟨tg, rfl⟩ := int_inv dv
          obtain ⟨gg0, gg8⟩ := hwo.2 _ (List.getElem_mem hi')
          refine kz ?_
          clear kz Pz
          have htk : gs.take (i + 1) = gs.take i ++ [gs[i]] := List.take_succ_eq_append_getElem hi'
          generalize gs[i] = g at *
          have c1X : (L1 + 1 + 1 + 1 + 1, co) ∈ X := ex.mem (.head _)
          have c2X : (L1 + 1 + 1 + 1, oc2) ∈ X := ex.mem (.tail _ (eY.mem (.head _)))
          have c3X : (L1 + 1 + 1, oc3) ∈ X := ex.mem (.tail _ (eY.mem (.tail _ (.head _))))
          have c4X : (L1 + 1, oc4) ∈ X := ex.mem (.tail _ (eY.mem (.tail _ (.tail _ (.head _)))))
          have nX : ∀ q ∈ news, q ∈ X := fun q hq => ex.1 q (.tail _ (eY.1 q (.tail _ (.tail _ (.tail _ hq)))))
          have yX : ∀ q ∈ Y, q ∈ X := fun q hq => ex.1 q (.tail _ hq)
          unfold testsC
          refine wpAny_tests_nil ?_
          rw [if_pos rfl]
          k_steps
          unfold Halt
          with_reducible rename News _ _ _ _ => N7
          with_reducible rename Fr _ _ _ _ => F7
          refine add_ahead F7 N7 (TupAt.at hat F7 N7 hnb fun q hq => .tail _ (.tail _ (.tail _ (.tail _ (nX q hq))))) (.head _) had (fun q hq => .tail _ (.tail _ (.tail _ (.tail _ (nX q hq))))) dv1 (fun q hq => .tail _ (.tail _ (.tail _ (.tail _ (yX q hq))))) (by omega) fun r hA newsA FA NA exA dA => ?_
          have up : ∀ q ∈ news, q ∈ newsA := fun q hq => exA.1 q (.tail _ (.tail _ (.tail _ (.tail _ (nX q hq)))))
          obtain ⟨n', hn1⟩ : ∃ n', n' + 1 = n := ⟨n - 1, Nat.sub_add_cancel (by omega)⟩
          have C9 := ih n' (by omega) g tg r (ahead ++ [pp]) newsA (hv.mono up) (up _ hbm) (up _ hx) (up _ hdx) gg0 gg8 (.inl dA) hnd' hsub' (by rw [List.length_append, List.length_singleton]; omega)
          k_steps
          unfold Halt
          walk_at "own call"
          intro r9 news9 h9 tk9 F9 N9 P9
          refine cps fun Pz kz => ?_
          obtain ⟨ex9, ps, hps, asc, mem⟩ := P9
          refine kz ?_
          clear kz Pz
          k_steps
          unfold Halt
          refine comp_out (by assumption) (by assumption) (((Ext.add (.refl _) rfl).trans exA).trans ex9) hC hI off fun Z zz1 zz2 zz3 => ⟨Z, rfl, ex.trans zz1, qss ++ [ps], (paired_mono (fun v q h => HopV.tup (fun q hq _ => zz1.1 q hq) h) hp1).snoc (hps.tup zz2), ?_⟩
          rw [htk]
          exact hp2.snoc ⟨asc, mem⟩
        · rintro ys X J9_2 D h tk F6 N6 off
          refine cps fun Pz kz => ?_
          obtain ⟨ex, qss, hp1, hp2⟩ := J9_2
          refine kz ?_
          clear kz Pz
          dsimp only [id] at N6
          rw [hz3, List.take_length] at hp2
          have px := paired_ex hp2
          have rg : ∀ q ∈ qss, Asc q ∧ ∀ p ∈ q, 0 ≤ p.1 ∧ p.1 < 3 ∧ 0 ≤ p.2 ∧ p.2 < 8 := fun q hq => by
            obtain ⟨g, hgm, ha, hm⟩ := px.2 q hq
            exact ⟨ha, fun p hp => reach_rg (fun y p wo h => (hlk2 y p wo h).2) ((hm p).mp hp) (hwo.2 g hgm).1 (hwo.2 g hgm).2⟩
          have hql := hp2.length
          have hsum := sum_len_le (c := 24) fun q hq => asc_len (rg q hq).1 (rg q hq).2
          have M := merged_con2 w D ys.length ys qss ((D, lst ys) :: X) (.head _) hp1.length (fun i v q e1 e2 => HopV.tup (fun q hq _ => .tail _ hq) (paired_get hp1 i v q e1 e2)) (fun q hq p hp => ⟨((rg q hq).2 p hp).2.2.1, by have := ((rg q hq).2 p hp).2.2.2; omega⟩) (by omega) (by omega)
          k_steps
          unfold Halt
          walk_at "own call"
          intro r9 news9 h9 tk9 F9 N9 P9
          refine cps fun Pz kz => ?_
          obtain ⟨ex9, ps, dps, asc, mem⟩ := P9
          obtain ⟨Z, z1, z2, z3⟩ := ext_drop (A := [(D, lst ys), (L1 + 1 + 1 + 1 + 1, co), (L1 + 1 + 1 + 1, oc2), (L1 + 1 + 1, oc3), (L1 + 1, oc4)]) ((Ext.cons ((Ext.cons eY).trans ex)).trans ex9)
          refine kz ?_
          clear kz Pz
          k_steps
          with_reducible rename News _ _ _ _ => N8
          refine hret _ Z _ _ (by assumption) (fun q hq => N8 q (by have := z2 q hq; k_mem)) ⟨z1, ps, .inl (dat_tup z3 dps (by rw [NoL]; exact noL_pds _)), asc, fun h => ⟨fun hp => ?_, fun hr => ?_⟩⟩
          · refine cps fun Pz kz => ?_
            obtain ⟨q, hq, hp⟩ := (mem h).mp hp
            obtain ⟨g, hgm, _, hm⟩ := px.2 q hq
            refine kz ?_
            clear kz Pz
            exact .via hg hin hlt hgm ((hm h).mp hp)
          · cases hr with
            | direct e _ _ => rw [hg] at e; cases e
            | via e _ _ hgm hr =>
              rw [hg] at e
              cases e
              refine cps fun Pz kz => ?_
              obtain ⟨q, hq, _, hm⟩ := px.1 _ hgm
              refine kz ?_
              clear kz Pz
              exact (mem h).mpr ⟨q, hq, (hm h).mpr hr⟩
      | direct dd =>
        obtain ⟨tv, t2, hwm⟩ := hwm
        k_steps
        with_reducible rename News _ _ _ _ => N5
        have hin : pp ∉ ahead := by assumption
        have hlt : (ahead.length : Int) < most := by omega
        have e5 := ext_news N5 (Ext.add (Ext.add (Ext.refl _) rfl) rfl)
        refine cps fun Pz kz => ?_
        obtain ⟨Z', z1', z2', z3'⟩ := ext_drop (A := [(_, _), (L1 + 1 + 1 + 1, oc2), (L1 + 1 + 1, oc3), (L1 + 1, oc4)]) ((Ext.cons eY).trans e5)
        refine kz ?_
        clear kz Pz
        refine hret _ Z' _ _ (by assumption) (fun q hq => N5 q (z2' q hq)) ⟨z1', [(dd, addr)], .inl (dat_tup z3' (.tuple (.head _) (.one (.tuple (.tail _ (.head _)) (.cons (.int _ _) (.cons (.int _ _) .nil))))) (by rw [NoL]; exact noL_pds _)), by simp [Asc], fun h => ⟨fun hp => ?_, fun hr => ?_⟩⟩
        · rw [List.mem_singleton.mp hp]; exact .direct hg hin hlt
        · cases hr with
          | direct e _ _ => rw [hg] at e; cases e; exact .head _
          | via e _ _ _ _ => rw [hg] at e; cases e
      | sink =>
        obtain ⟨tv, hwm⟩ := hwm
        k_steps
        with_reducible rename News _ _ _ _ => N5
        exact hret22 _ _ (by assumption) (fun q hq => N5 q (by k_mem)) (.inr (.inr rfl))
end
section
local macro_rules | `(tactic| walk_at "pad0") => `(tactic| skip)
theorem fresh37 : True := by w_top off; trivial

local macro_rules | `(tactic| walk_at "call builtin:list.append") => `(tactic| (k_here; refine halt ?_))
local macro_rules | `(tactic| walk_at "call builtin:list.extend") => `(tactic| (k_here; refine halt ?_))
local macro_rules | `(tactic| walk_at "call ref") => `(tactic| (k_here; refine halt ?_))
local macro_rules | `(tactic| walk_at "subscriptTail Name Constant ref int") => `(tactic| (k_here; (with_reducible show wpAny _ _ (subscriptTail _ _ (Value.ref _) (Value.int _ _)) _ _ _); walk_at "tuple item"))
local macro_rules | `(tactic| walk_at "subscriptTail Subscript") => `(tactic| (k_here; (with_reducible show wpAny _ _ (subscriptTail _ _ (Value.ref _) (Value.int _ _)) _ _ _); walk_at "tuple item"))
local macro_rules | `(tactic| walk_at "eval Name") => `(tactic| (k_here; k_dflt (refine' nameX_L ?F ?v ?_ ?a ?b; (case F => k_asm); (case a => rfl); (case b => rfl); (case v => first | rfl | assumption); k_whole)))
local macro_rules | `(tactic| walk_at "isTrue BoolOp") => `(tactic| (k_here; walk_at "own fold"))
local macro_rules | `(tactic| walk_at "eval Call") => `(tactic| (k_here; walk_at "own fold"))
local macro_rules | `(tactic| walk_at "isTrue Compare") => `(tactic| (k_here; walk_at "own fold"))
local macro_rules | `(tactic| walk_at "exec If") => `(tactic| (k_here; (with_reducible rename HaltIf => hI9); (with_reducible show wpAny _ _ (PySem.exec (.If (.Compare _ _ _ _) _ _ _) _) _ _ _); refine halt ?_))
structure DS where
  ln : Addr
  lv : List Value
  le : Nat
  ls : List Int
  sv : List Value
  se : Nat
  ss : List (Int × Int)
  d : Int
  dt : Tok
  T : List (Addr × Obj)
structure IS where
  lv : List Value
  le : Nat
  ls : List Int
  sv : List Value
  se : Nat
  ss : List (Int × Int)
  T : List (Addr × Obj)
theorem depth_con (w : World) (bm x dx : Addr) (hb ht : Int) (tb tt t3 : Tok) (n : Nat) (t : Tree) (v : Value) (lk : Int → Hit) (tab : List (Int × Int)) (addr most : Int) (ta tm : Tok) (res : Option Int) (news : List (Addr × Obj))
    (hok : t.ok) (hokW : t.okW) (hv : DatIn news v t.dat) (hbm : (bm, methodObj (.ref 132) (.ref x)) ∈ news) (hx : (x, instObj 149 dx) ∈ news) (hdx : (dx, dictOf (instD hb ht tb tt t3 v) n) ∈ news)
    (hlk : ∀ y, 0 ≤ y → y < 8 → lookGo y .none t = hitD (lk y)) (hlk2 : ∀ y p wo, lk y = some (p, wo) → p ∈ tab ∧ wo.ok) (htab : tab.length ≤ 5) (ha0 : 0 ≤ addr) (ha8 : addr < 8) (hm0 : -10 < most) (hm : most < 10000000) (hres : DepthR lk most [addr] [] 0 res) :
    Con w 41 [.ref bm, .int addr ta, .int most tm] 12 300 news fun r news' => Ext news news' ∧ ((res = none ∧ r = .none) ∨ ∃ d tk, res = some d ∧ r = .int d tk) := by
  unfold Con
  k_fill
  intro p loose mean mg mb dp un gd cn cs a ccd cl outer A₀ base h₀ L m s R B F X N T hk hdp hu hret
  k_dflt ktr_enter
  k_steps
  unfold Halt
  rename_i LN h1 q1 SE h2 q2 TP h3 q3 h4 h5 h6 h7 F0 N0
  refine whileInv (σ := DS) (fun c => [(Str.ofString "line", Value.ref c.ln), (Str.ofString "depth", Value.int c.d c.dt)]) [Str.ofString "gateway", Str.ofString "row", Str.ofString "later"] (fun c => (c.ln, listOf c.lv.toArray c.le) :: (SE, listOf c.sv.toArray c.se) :: (news ++ c.T))
    (fun c => DatAll (news ++ c.T) c.lv (c.ls.map .int) ∧ DatAll (news ++ c.T) c.sv (c.ss.map pd) ∧ c.ss.Nodup ∧ (∀ p ∈ c.ss, p ∈ tab) ∧ (∀ g ∈ c.ls, 0 ≤ g ∧ g < 8) ∧ c.ls.length ≤ 10 ∧ (∀ q ∈ c.T, q.2.cls = .type "tuple") ∧ DepthR lk most c.ls c.ss c.d res ∧ 0 ≤ c.d ∧ c.d ≤ 10000000 ∧ @Ne Nat c.ln SE)
    (fun c => 2 * (6 - c.ss.length) + (if c.ls = [] then 0 else 1)) ⟨LN, [.int addr ta], 0, [addr], [], 0, [], 0, ?t9, []⟩ (by assumption) (by assumption) ?_ ?_ ?_ ?_
  rotate_left
  · refine fa ?_ (fa ?_ fun q hq => ?_)
    · exact .tail _ (.tail _ (.head _))
    · exact .tail _ (.head _)
    · rw [List.append_nil] at hq; exact .tail _ (.tail _ (.tail _ hq))
  · walk_at "names hold"
  · refine ⟨.cons (.int _ _) .nil, .nil, .nil, (fun _ h => nomatch h), ?_, by simp, (fun _ h => nomatch h), hres, by simp, by simp, Nat.ne_of_lt q2.1⟩
    intro g hg
    rw [List.mem_singleton.mp hg]; exact ⟨ha0, ha8⟩
  · rintro c u h tk J0 F1 N1
    refine an11 J0 fun c1 c2 c3 c4 c5 c6 c7 c8 c9 c10 c11 => ?_
    clear J0
    dsimp only at F1 ⊢
    k_steps
    · rename_i NL k1 k2 ne9 _ _ dlt LT k3 k4 k5 F2 N2
      unfold Halt
      have hls : c.ls ≠ [] := fun e => ne9 (by rw [e]; rfl)
      have hlvs := c1.length
      rw [List.length_map] at hlvs
      refine for_list (σ := IS) (fun _ => []) [Str.ofString "row"] (fun e => (LT, listOf e.lv.toArray e.le) :: (SE, listOf e.sv.toArray e.se) :: (c.ln, listOf c.lv.toArray c.le) :: (news ++ e.T))
        (fun i e => DatAll (news ++ e.T) e.lv (e.ls.map .int) ∧ DatAll (news ++ e.T) e.sv (e.ss.map pd) ∧ e.ss.Nodup ∧ (∀ p ∈ e.ss, p ∈ tab) ∧ (∀ g ∈ e.ls, 0 ≤ g ∧ g < 8) ∧ e.ls.length + 2 * c.ss.length ≤ 2 * e.ss.length ∧ (∀ q ∈ e.T, q.2.cls = .type "tuple") ∧ turnGo lk c.ls c.ss [] = turnGo lk (c.ls.drop i) e.ss e.ls)
        ⟨[], 0, [], c.sv, c.se, c.ss, c.T⟩ rfl (fun _ _ _ => .tail _ (.tail _ (.head _))) (by assumption) (by assumption) ?_ (fun _ h => nomatch h) ⟨.nil, c2, c3, c4, (fun _ h => nomatch h), by simp, c7, rfl⟩ ⟨?_, ?_⟩
      · refine fa ?_ (fa ?_ (fa ?_ fun q hq => ?_))
        · exact .head _
        · exact .tail _ (.tail _ (.tail _ (.head _)))
        · exact .tail _ (.tail _ (.head _))
        · exact .tail _ (.tail _ (.tail _ (.tail _ hq)))
      · rintro i gv e u' h' tk' own hi hv J1 hown hoc F3 N3
        refine an8 J1 fun e1 e2 e3 e4 e5 e6 e7 e8 => ?_
        clear J1
        dsimp only at hown N3 ⊢
        have hi' : i < c.ls.length := by omega
        refine cps fun Pz kz => ?_
        obtain ⟨v', ev, dv⟩ := c1.get (k := i) (by rw [List.length_map]; exact hi')
        obtain rfl : v' = gv := Option.some.inj (ev.symm.trans hv)
        rw [List.getElem_map] at dv
        obtain ⟨tg, rfl⟩ := int_inv dv
        obtain ⟨g0, g8⟩ := c5 _ (List.getElem_mem hi')
        refine kz ?_
        clear kz Pz
        have hdrop : c.ls.drop i = c.ls[i] :: c.ls.drop (i + 1) := List.drop_eq_getElem_cons hi'
        have hlki := hlk _ g0 g8
        have hlki2 := hlk2 c.ls[i]
        generalize c.ls[i] = g at *
        k_steps
        unfold Halt
        walk_at "look call"
        intro r9 news9 h9 tk9 F9 N9 P9
        refine cps fun Pz kz => ?_
        obtain ⟨ex9, d9⟩ := P9
        obtain ⟨T2, hT2, s21, s22⟩ := ext_split ex9
        refine kz ?_
        clear kz Pz
        rw [hlki] at d9
        have hkeep : ∀ q ∈ news9, q.2.cls = .type "tuple" → q ∈ news ++ (e.T ++ T2) := fun q hq hc => row_keep (by intro e; exact absurd (Value.type.inj e) (by decide)) (by intro e; exact absurd (Value.type.inj e) (by decide)) (by intro e; exact absurd (Value.type.inj e) (by decide)) hoc hc (s22 q hq)
        have N8 : News _ _ h9 ((LT, listOf e.lv.toArray e.le) :: (SE, listOf e.sv.toArray e.se) :: (c.ln, listOf c.lv.toArray c.le) :: (news ++ (e.T ++ T2)) ++ own) := fun q hq => N9 q (s21 q (row_mem q hq))
        have d9 := hit_mono hkeep d9
        have hT' : ∀ q ∈ e.T ++ T2, q.2.cls = .type "tuple" := fun q hq => (List.mem_append.mp hq).elim (e7 q) (hT2 q)
        have u1 : DatAll (news ++ (e.T ++ T2)) e.lv (e.ls.map .int) := e1.mono fun q hq => by rw [← List.append_assoc]; exact List.mem_append_left _ hq
        have u2 : DatAll (news ++ (e.T ++ T2)) e.sv (e.ss.map pd) := e2.mono fun q hq => by rw [← List.append_assoc]; exact List.mem_append_left _ hq
        have hown' : OwnOff own (((LT, listOf e.lv.toArray e.le) :: (SE, listOf e.sv.toArray e.se) :: (c.ln, listOf c.lv.toArray c.le) :: (news ++ (e.T ++ T2))).map (·.1)) := own_ext N8 hown hoc (fun q hq => List.mem_append_right _ hq) (fun q hq => by
          revert q
          refine fa ?_ (fa ?_ (fa ?_ fun q hq => ?_))
          · exact .inl ⟨_, .head _⟩
          · exact .inl ⟨_, .tail _ (.head _)⟩
          · exact .inl ⟨_, .tail _ (.tail _ (.head _))⟩
          · rcases List.mem_append.mp hq with hq' | hq'
            · exact .inl ⟨q.2, .tail _ (.tail _ (.tail _ (List.mem_append_left _ hq')))⟩
            · exact .inr ⟨List.mem_append_left _ (.tail _ (.tail _ (.tail _ hq))), hT' q hq'⟩)
        clear N9 ex9 s21 s22 e1 e2 hkeep hown
        generalize e.T ++ T2 = T' at *
        have hz1 := u1.length
        rw [List.length_map] at hz1
        have hz2 := u2.length
        rw [List.length_map] at hz2
        have hss := len_sub _ _ e3 e4
        have hsub0 := N8
        cases hg : lk g with
        | none =>
          rw [hg] at d9
          cases d9
          k_steps
          refine Aft.intro { e with T := T' } (by assumption) (by assumption) (by walk_at "led stays") (by walk_at "own stays") hown' (fun _ h => nomatch h) (by walk_at "names stay") ⟨u1, u2, e3, e4, e5, e6, hT', ?_⟩
          rw [e8, hdrop, turnGo, hg]
        | some pw =>
          refine cps fun Pz kz => ?_
          obtain ⟨pp, wo⟩ := pw
          rw [hg] at d9
          obtain ⟨ra, rk, v1, v2, rfl, hra, dv1, dv2⟩ := hit_inv d9
          obtain ⟨hpt, hwo⟩ := hlki2 _ _ hg
          obtain ⟨y1, yk1, z1, z2, rfl, hy1⟩ := pd_inv dv1
          obtain ⟨y2, yk2, rfl, hwm⟩ := wo_inv dv2
          refine kz ?_
          clear kz Pz
          have hI : HaltIf := trivial
          k_steps
          · (try dsimp only)
            refine Aft.intro { e with T := T' } (by assumption) (by assumption) (by walk_at "led stays") (by walk_at "own stays") hown' (fun _ h => nomatch h) (by walk_at "names stay") ⟨u1, u2, e3, e4, e5, e6, hT', ?_⟩
            rw [e8, hdrop, turnGo, hg]
            exact if_pos (by assumption)
          · unfold Halt
            with_reducible rename HaltIf => hI
            clear hI
            have hin : pp ∉ e.ss := by assumption
            with_reducible rename News _ _ _ _ => N8
            have oT1 : ∀ q ∈ T', q.1 ≠ SE := off_cls N8 (.tail _ (.head _)) (fun q hq => List.mem_append_left _ (.tail _ (.tail _ (.tail _ (List.mem_append_right _ hq))))) fun q hq e => by rw [hT' q hq] at e; exact absurd (Value.type.inj e) (by decide)
            have oT2 : ∀ q ∈ T', q.1 ≠ LT := off_cls N8 (.head _) (fun q hq => List.mem_append_left _ (.tail _ (.tail _ (.tail _ (List.mem_append_right _ hq))))) fun q hq e => by rw [hT' q hq] at e; exact absurd (Value.type.inj e) (by decide)
            have offS : ∀ q ∈ (LT, listOf e.lv.toArray e.le) :: (c.ln, listOf c.lv.toArray c.le) :: (news ++ T') ++ own, q.1 ≠ SE := off_app (off_cons (Nat.ne_of_gt k4.2.2.1) (off_cons c11 (off_app (off_lt (allLt_to q2.2)) oT1))) (off_own hown' (.tail _ (.head _)))
            have offL : ∀ sv se, ∀ q ∈ (SE, listOf sv se) :: (c.ln, listOf c.lv.toArray c.le) :: (news ++ T') ++ own, q.1 ≠ LT := fun sv se => off_app (off_cons (Nat.ne_of_lt k4.2.2.1) (off_cons (Nat.ne_of_lt k4.2.1) (off_app (off_lt fun q hq => allLt_to k4.2.2.2 q (List.mem_append_left _ hq)) oT2))) (off_own hown' (.head _))
            cases wo with
            | via gs =>
              refine cps fun Pz kz => ?_
              obtain ⟨tv, v3, hwm, dgs⟩ := hwm
              obtain ⟨y3, vs3, yk3, rfl, hy3, dvs3⟩ := dat_tuple_inv dgs
              refine kz ?_
              clear kz Pz
              have hz3 := dvs3.length
              rw [List.length_map] at hz3
              have hwo1 : gs.length ≤ 2 := hwo.1
              k_steps
              unfold Halt
              refine append_at' ((LT, listOf e.lv.toArray e.le) :: (c.ln, listOf c.lv.toArray c.le) :: (news ++ T') ++ own) (by assumption) (by assumption) (.tail _ (.head _)) (fun q hq => ?_) offS (by omega) fun hA nA FA NA => ?_
              · revert q
                refine fa ?_ fun q hq => ?_
                · exact .head _
                · exact .tail _ (.tail _ hq)
              k_steps
              unfold Halt
              refine extend_at' ((SE, listOf (e.sv ++ [Value.ref y1]).toArray nA) :: (c.ln, listOf c.lv.toArray c.le) :: (news ++ T') ++ own) (by assumption) (by assumption) (.tail _ (.head _)) (fun q hq => ?_) (offL _ _) (.tail _ (.tail _ (.tail _ (List.mem_append_left _ hy3)))) (.inr rfl) rfl (by omega) fun hB nB FB NB => ?_
              · revert q
                refine fa ?_ fun q hq => ?_
                · exact .head _
                · exact .tail _ (.tail _ hq)
              k_steps
              refine Aft.intro (IS.mk (e.lv ++ vs3) nB (e.ls ++ gs) (e.sv ++ [Value.ref y1]) nA (e.ss ++ [pp]) T') (by assumption) (by assumption) (by walk_at "led stays") (by walk_at "own stays") hown' (fun _ h => nomatch h) (by walk_at "names stay") ⟨?_, ?_, ?_, ?_, ?_, ?_, hT', ?_⟩
              · dsimp only; rw [List.map_append]; exact u1.append dvs3
              · dsimp only; rw [List.map_append]; exact u2.append (.one dv1)
              · exact nd_snoc e3 hin
              · refine fapp (fun q hq => ?_) fun q hq => ?_
                · exact e4 q hq
                · rw [List.mem_singleton.mp hq]; exact hpt
              · refine fapp (fun q hq => ?_) fun q hq => ?_
                · exact e5 q hq
                · exact hwo.2 q hq
              · have := hwo.1
                dsimp only
                rw [List.length_append, List.length_append, List.length_singleton]
                omega
              · rw [e8, hdrop, turnGo, hg]
                exact if_neg hin
            | direct dd =>
              obtain ⟨tv, t2, hwm⟩ := hwm
              k_steps
              (try dsimp only)
              (try dsimp only [AftF])
              k_steps
              (try dsimp only [AftF])
              k_steps
              (try dsimp only [AftF])
              k_steps
              with_reducible rename News _ _ _ _ => kN9
              refine hret _ (news ++ T') _ _ (by assumption) (fun q hq => kN9 q ?_) ⟨⟨fun _ h => List.mem_append_left _ h, fun q hq => (List.mem_append.mp hq).elim .inl (fun h => .inr (hT' q h))⟩, .inr ⟨c.d, c.dt, depthR_hit c8 hls dlt (by rw [e8, hdrop, turnGo, hg]; exact if_neg (by assumption)), rfl⟩⟩
              k_mem
            | sink =>
              obtain ⟨tv, hwm⟩ := hwm
              k_steps
              unfold Halt
              refine append_at' ((LT, listOf e.lv.toArray e.le) :: (c.ln, listOf c.lv.toArray c.le) :: (news ++ T') ++ own) (by assumption) (by assumption) (.tail _ (.head _)) (fun q hq => ?_) offS (by omega) fun hA nA FA NA => ?_
              · revert q
                refine fa ?_ fun q hq => ?_
                · exact .head _
                · exact .tail _ (.tail _ hq)
              k_steps
              unfold Halt
              refine extend_at' (ws := []) ((SE, listOf (e.sv ++ [Value.ref y1]).toArray nA) :: (c.ln, listOf c.lv.toArray c.le) :: (news ++ T') ++ own) (by assumption) (by assumption) (.tail _ (.tail _ (.head _))) (fun q hq => ?_) (offL _ _) (.head _) (.inr rfl) rfl (by simp only [List.length_nil]; omega) fun hB nB FB NB => ?_
              · revert q
                refine fa ?_ fun q hq => ?_
                · exact .tail _ (.head _)
                · exact .tail _ (.tail _ (.tail _ hq))
              k_steps
              refine Aft.intro (IS.mk (e.lv ++ []) nB e.ls (e.sv ++ [Value.ref y1]) nA (e.ss ++ [pp]) T') (by assumption) (by assumption) (by walk_at "led stays") (by walk_at "own stays") hown' (fun _ h => nomatch h) (by walk_at "names stay") ⟨?_, ?_, ?_, ?_, e5, ?_, hT', ?_⟩
              · dsimp only; rw [List.append_nil]; exact u1
              · dsimp only; rw [List.map_append]; exact u2.append (.one dv1)
              · exact nd_snoc e3 hin
              · refine fapp (fun q hq => ?_) fun q hq => ?_
                · exact e4 q hq
                · rw [List.mem_singleton.mp hq]; exact hpt
              · dsimp only
                rw [List.length_append, List.length_singleton]
                omega
              · rw [e8, hdrop, turnGo, hg]
                exact if_neg hin
      · rintro e u' h' tk' J2 F3 N3
        refine an8 J2 fun e1 e2 e3 e4 e5 e6 e7 e8 => ?_
        clear J2
        dsimp only at N3 ⊢
        rw [hlvs, List.drop_length] at e8
        k_steps
        have hss := len_sub _ _ e3 e4
        refine Aft.intro (DS.mk LT e.lv e.le e.ls e.sv e.se e.ss (c.d + 1) ?t8 e.T) (by assumption) (by assumption) (fun q hq => ?_) (by walk_at "no own") (by walk_at "no own") ?_ ?_ ?_
        rotate_left
        · revert q
          refine fa ?_ (fa ?_ fun q hq => ?_)
          · exact .tail _ (.head _)
          · exact .tail _ (.tail _ (.head _))
          · exact .tail _ (.tail _ (.tail _ (.tail _ hq)))
        · walk_at "names hold"
        · walk_at "names stay"
        · refine ⟨⟨e1, e2, e3, e4, e5, by dsimp only; omega, e7, depthR_next c8 hls dlt (e8.trans rfl), by dsimp only; omega, by dsimp only; omega, Nat.ne_of_gt k4.2.2.1⟩, ?_⟩
          dsimp only
          rw [if_neg hls]
          by_cases hel : e.ls = []
          · rw [if_pos hel]
            have q := Nat.sub_le_sub_left (show c.ss.length ≤ e.ss.length by omega) 6
            generalize 6 - e.ss.length = u at *
            generalize 6 - c.ss.length = v at *
            omega
          · rw [if_neg hel]
            have := List.length_pos_iff.mpr hel
            have q := Nat.sub_lt_sub_left (show c.ss.length < 6 by omega) (show c.ss.length < e.ss.length by omega)
            generalize 6 - e.ss.length = u at *
            generalize 6 - c.ss.length = v at *
            omega
    · with_reducible rename News _ _ _ _ => kN9
      exact hret _ _ _ _ (by assumption) (fun q hq => kN9 q (.tail _ (.tail _ (.tail _ hq)))) ⟨⟨fun _ h => List.mem_append_left _ h, fun q hq => (List.mem_append.mp hq).elim .inl (fun h => .inr (c7 q h))⟩, .inl ⟨depthR_stop c8 (.inr (by omega)), rfl⟩⟩
    · with_reducible rename News _ _ _ _ => kN9
      exact hret _ _ _ _ (by assumption) (fun q hq => kN9 q (.tail _ (.tail _ (.tail _ hq)))) ⟨⟨fun _ h => List.mem_append_left _ h, fun q hq => (List.mem_append.mp hq).elim .inl (fun h => .inr (c7 q h))⟩, .inl ⟨depthR_stop c8 (.inl (List.map_eq_nil_iff.mp (by assumption))), rfl⟩⟩
end
section
theorem fresh38 : True := by w_top off; trivial
open LCg

local macro_rules | `(tactic| walk_at "AtSrc") => `(tactic| (k_here; refine halt ?_))
local macro_rules | `(tactic| walk_at "CompEnd") => `(tactic| (k_here; refine halt ?_))
local macro_rules | `(tactic| walk_at "call ref") => `(tactic| (k_here; (with_reducible show wpAny _ _ (PySem.call (Value.ref 160) _) _ _ _); k_dflt (refine' draw_call ?U ?m ?ne ?ia ?s0 ?s1 ?m0 ?m1 ?l ?_; (case U => k_updF); (case m => k_mem); (case ne => assumption); (case ia => assumption); (case s0 => omega); (case s1 => omega); (case m0 => first | omega | exact pow_lo); (case m1 => first | omega | (exact Int.lt_of_le_of_lt (pow_hi (by omega)) (by decide))); (case l => assumption)); intro d9 tk9 t9 n9 h9 tk9' lo9 hi9 F9 N9; (try dsimp only at N9); (try walk_at "own fold")))
local macro_rules | `(tactic| k_updF) => `(tactic| first | (refine' UpdF.head ?a; (case a => walk_at "off")) | (refine' UpdF.tail ?a ?b; (case a => k_ne); (case b => k_updF)))
local macro_rules | `(tactic| walk_at "off") => `(tactic| first | assumption | (refine' off_cons ?o1 ?o2; (case o1 => (first | assumption | k_ne)); (case o2 => walk_at "off")))
theorem dict_empty {prog : Program} {w : World} {K : Type} [DecidableEq K] {knd : PySem.KeyKind prog w K} {o : Obj} (h : Obj.IsDictOf knd o []) : ∃ ep, o = dctO #[] ep := by
  refine cps fun Pz kz => ?_
  obtain ⟨es, ep, hc, hd, _, hp, _⟩ := h
  have e : es = #[] := by
    apply Array.toList_inj.mp
    cases hes : es.toList with
    | nil => rfl
    | cons x r => rw [hes] at hp; cases hp
  subst e
  refine kz ?_
  clear kz Pz
  exact ⟨ep, entries_of hc hd⟩
theorem mul_ok {a l : Int} (h : 0 ≤ l) : IntMulOk a (2 ^ (3 - l).toNat) := by
  refine IntMulOk.of_right ?_
  have : (3 - l).toNat = 0 ∨ (3 - l).toNat = 1 ∨ (3 - l).toNat = 2 ∨ (3 - l).toNat = 3 := by omega
  rcases this with e | e | e | e <;> rw [e] <;> decide
local macro_rules | `(tactic| walk_at "binaryOp Mult int int") => `(tactic| (k_here; (with_reducible refine PyProof.Rows.mul_int ?_ (mul_ok (by omega)))))
local macro_rules | `(tactic| walk_at "setItem ref ref") => `(tactic| (k_here; refine halt ?_))
local macro_rules | `(tactic| walk_at "isTrue BoolOp") => `(tactic| (k_here; walk_at "own fold"))
local macro_rules | `(tactic| walk_at "eval Call") => `(tactic| (k_here; walk_at "own fold"))
local macro_rules | `(tactic| walk_at "isTrue Compare") => `(tactic| (k_here; walk_at "own fold"))
local macro_rules | `(tactic| walk_at "eval Tuple") => `(tactic| (k_here; walk_at "own fold"))
local macro_rules | `(tactic| walk_at "eval BinOp") => `(tactic| (k_here; walk_at "own fold"))
local macro_rules | `(tactic| walk_at "exec Assign") => `(tactic| (k_here; walk_at "own fold"))
local macro_rules | `(tactic| walk_at "eval Subscript") => `(tactic| (k_here; walk_at "own fold"))
section
variable {prog : Program} {w : World} {A : Around} {E : Value → Shared → Prop} {s : Shared} {h₀ : Heap} {L : Addr} {m : Str → Option Value}
theorem tab_put_keys {X Z : List (Addr × Obj)} {xs : List Row} {k : Int × Int} {a : Addr} {v : Value} (hs : ∀ q ∈ X, q ∈ Z) (hk : ∀ x ∈ xs, DatIn X (.ref x.2.1) (pd x.1)) (ha : DatIn Z (.ref a) (pd k)) : ∀ x ∈ tabPut xs k a v, DatIn Z (.ref x.2.1) (pd x.1) := fun x hx => by
  rcases put_mem hx with ⟨y, hy, e1, e2⟩ | rfl
  · rw [← e1, ← e2]; exact (hk y hy).mono hs
  · exact ha
theorem store_row {D kp : Addr} {v : Value} {k1 k2 : Int} {wo : Wo} {xs : List Row} {rs : List RowW} {ep : Nat} {led X : List (Addr × Obj)} {Q : Unit → Shared → Prop} (rest : List (Addr × Obj)) (F : Fr h₀ L s.heap m) (N : News h₀ L s.heap led) (hD : (D, tabD prog w xs ep) ∈ led) (lo : (D == sysModules) = false)
    (hkey : DatIn led (.ref kp) (pd (k1, k2))) (hv : DatIn led v wo.dat) (hX : ∀ q ∈ X, q ∈ led) (hXD : ∀ q ∈ X, @Ne Nat q.1 D) (hr : ∀ q ∈ rest, q ∈ led) (hrD : ∀ q ∈ rest, @Ne Nat q.1 D) (hk : ∀ x ∈ xs, DatIn X (.ref x.2.1) (pd x.1)) (hn : (xs.map (·.1)).Nodup) (hp : Paired (RowOk X) xs rs) (hz : xs.length ≤ 1000) (hu : A.units + 1 < cLine)
    (h : ∀ h' tk ep' X' rs', Fr h₀ L h' m → News h₀ L h' ((D, tabD prog w (tabPut xs (k1, k2) kp v) ep') :: (rest ++ X')) → Ext X X' → (∀ x ∈ tabPut xs (k1, k2) kp v, DatIn X' (.ref x.2.1) (pd x.1)) → ((tabPut xs (k1, k2) kp v).map (·.1)).Nodup → Paired (RowOk X') (tabPut xs (k1, k2) kp v) rs' → (∀ r ∈ rs', r ∈ rs ∨ r = ((k1, k2), wo)) → Q () { s with heap := h', toks := tk }) :
    wpAny (model prog w) A (setItem (.ref D) (.ref kp) v) Q E s := by
  classical
  refine cps fun Pz kz => ?_
  obtain ⟨Y, NY, y1, y2, y3⟩ := led_front N hD
  refine kz ?_
  clear kz Pz
  have hXX : Ext X (Y.filter fun q => decide (q ∈ X ∨ q.2.cls = .type "tuple")) := ⟨fun q hq => List.mem_filter.mpr ⟨y2 q (hX q hq) (hXD q hq), decide_eq_true (.inl hq)⟩, fun q hq => of_decide_eq_true (List.mem_filter.mp hq).2⟩
  have tupY : ∀ q ∈ led, IsTup q.2 → q ∈ Y := fun q hq ⟨a, b, e⟩ => y2 q hq fun ec => by
    have h1 : (D, q.2) ∈ led := ec ▸ hq
    have h2 := led_fn N hD h1
    rw [e] at h2
    exact absurd (Value.type.inj (congrArg Obj.cls h2)) (by decide)
  have tup : ∀ q ∈ led, IsTup q.2 → q ∈ Y.filter fun q => decide (q ∈ X ∨ q.2.cls = .type "tuple") := fun q hq ht => List.mem_filter.mpr ⟨tupY q hq ht, decide_eq_true (.inr (by obtain ⟨a, b, e⟩ := ht; rw [e]))⟩
  have hsub : ∀ q ∈ Y.filter (fun q => decide (q ∈ X ∨ q.2.cls = .type "tuple")), q ∈ Y := fun q hq => (List.mem_filter.mp hq).1
  generalize Y.filter (fun q => decide (q ∈ X ∨ q.2.cls = .type "tuple")) = X' at *
  have hkey' := dat_tup tup hkey (by simp [NoL, NoLs])
  have hv' := dat_tup tup hv (noL_wo _)
  have T : Tab prog w ((D, dctO (xs.map (entP prog w)).toArray ep) :: Y) D xs ep := ⟨lo, .head _, fun x hx => (hk x hx).mono fun q hq => .tail _ (hsub q (hXX.1 q hq)), hn⟩
  obtain ⟨rs', p1, p2⟩ := rows_put (paired_mono (fun x r h => RowOk.mono (fun q hq _ => hXX.1 q hq) h) hp) (k1, k2) kp v wo hv'
  refine tab_set F NY T (hkey'.mono fun q hq => .tail _ (hsub q hq)) hu (by omega) (UpdF.head y1) fun h' tk ep' F' N' => ?_
  refine h h' tk ep' X' rs' F' (fun q hq => N' q ?_) hXX (tab_put_keys hXX.1 hk hkey') (put_keys _ _ _ _ hn) p1 p2
  revert q
  refine fa ?_ (fapp (fun q hq => ?_) fun q hq => ?_)
  · exact .head _
  · exact .tail _ (y2 q (hr q hq) (hrD q hq))
  · exact .tail _ (hsub q hq)
end
theorem pool_of {h₀ h : Heap} {L : Addr} {p0 p1 : Addr × Obj} {pa c : Addr} {sp : Int} {t : Tok} {n : Nat} {R : List (Addr × Obj)} (N : News h₀ L h (p0 :: (p1 :: (pa, listOf #[.ref c, .int sp t] n) :: R))) : ∃ t n, News h₀ L h (p0 :: (p1 :: (pa, listOf #[.ref c, .int sp t] n) :: R)) := ⟨t, n, N⟩
theorem own_close {h₀ h : Heap} {L a0 a1 a2 a3 : Addr} {o0 o1 o2 o3 b0 b1 b2 b3 : Obj} {own X X' : List (Addr × Obj)} (N : News h₀ L h ((a0, b0) :: (a1, b1) :: (a2, b2) :: (a3, b3) :: (own ++ X'))) (hown : OwnOff own (((a0, o0) :: (a1, o1) :: (a2, o2) :: (a3, o3) :: X).map (·.1))) (hoc : ∀ q ∈ own, q.2.cls ≠ .type "tuple") (ex : Ext X X') :
    OwnOff own (((a0, b0) :: (a1, b1) :: (a2, b2) :: (a3, b3) :: X').map (·.1)) :=
  own_ext N hown hoc (fun q hq => .tail _ (.tail _ (.tail _ (.tail _ (List.mem_append_left _ hq))))) fun q hq => by
    revert q
    refine fa ?_ (fa ?_ (fa ?_ (fa ?_ fun q hq => ?_)))
    · exact .inl ⟨_, .head _⟩
    · exact .inl ⟨_, .tail _ (.head _)⟩
    · exact .inl ⟨_, .tail _ (.tail _ (.head _))⟩
    · exact .inl ⟨_, .tail _ (.tail _ (.tail _ (.head _)))⟩
    · rcases ex.2 q hq with h | h
      · exact .inl ⟨q.2, .tail _ (.tail _ (.tail _ (.tail _ h)))⟩
      · exact .inr ⟨.tail _ (.tail _ (.tail _ (.tail _ (List.mem_append_right _ hq)))), h⟩
theorem mem_four {p0 p1 p2 p3 : Addr × Obj} {own X : List (Addr × Obj)} : ∀ q ∈ p0 :: p1 :: p2 :: p3 :: X, q ∈ p0 :: p1 :: p2 :: p3 :: (own ++ X) := fun q hq => by
  revert q; (repeat' (first | refine fa ?_ ?_ | refine fapp ?_ ?_)); all_goals first | k_mem | (intro q hq; k_mem)
theorem range_mod {h : Heap} {r : Addr} {d : Int} {t u v : Tok} (_ : IsRange h r 0 (1 + Int.fmod d 2) 1 t u v) : ∃ n : Nat, n ≤ 2 ∧ Builtin.Range.small 0 (1 + Int.fmod d 2) 1 = true ∧ Builtin.Range.rangeSize 0 (1 + Int.fmod d 2) 1 = (n : Int) := by
  have h1 := Int.fmod_nonneg_of_pos d (show (0 : Int) < 2 by decide)
  have h2 := Int.fmod_lt_of_pos d (show (0 : Int) < 2 by decide)
  exact ⟨_, by omega, small_one (by omega) (by omega) (by omega) (by omega), rangeSize_nat _ _⟩
structure LS where
  xs : List Row
  ep : Nat
  sp : Int
  t : Tok
  n : Nat
  X : List (Addr × Obj)
inductive RowsPost (w : World) (pa c : Addr) (cells : List Value) (spot : Int) (k : Nat) (news : List (Addr × Obj)) (r : Value) (news' : List (Addr × Obj)) : Prop
  | mk (d : Addr) (xs : List Row) (ep : Nat) (rs : List RowW) (spot' : Int) (t' : Tok) (n' : Nat) (X : List (Addr × Obj)) (h0 : r = .ref d) (h1 : news' = (d, tabD PySem.Challenge.rw_rh0204_01.row.prog w xs ep) :: (pa, listOf #[.ref c, .int spot' t'] n') :: (c, listOf cells.toArray k) :: X) (h2 : Ext news X) (h3 : spot ≤ spot') (h4 : spot' ≤ spot + 40) (h5 : (d == sysModules) = false) (h6 : (∀ x ∈ xs, DatIn X (.ref x.2.1) (pd x.1))) (h7 : (xs.map (·.1)).Nodup) (h8 : Paired (RowOk X) xs rs) (h9 : rs.length ≤ 5) (h10 : ∀ r ∈ rs, Cn r.1.1 r.1.2 ∧ r.2.ok) : RowsPost w pa c cells spot k news r news'
theorem rows_con (w : World) (pa c : Addr) (cells : List Value) (ns : List Int) (spot : Int) (t : Tok) (n k : Nat) (news : List (Addr × Obj)) 
    (hc : IntsAre cells ns) (hs : 0 ≤ spot) (hs2 : spot < 100) (hl : ns.length ≤ 63) (hpc : @Ne Nat pa c) (hoff : ∀ q ∈ news, q.1 ≠ pa) :
    Con w 165 [.ref pa] 20 300 ((pa, listOf #[.ref c, .int spot t] n) :: (c, listOf cells.toArray k) :: news)
      (RowsPost w pa c cells spot k news) := by
  unfold Con
  k_fill
  intro p loose mean mg mb dp un gd cn cs a ccd cl outer A₀ base h₀ L m s R B F X N T hk hdp hu hret
  have hcp : @Ne Nat c pa := fun e => hpc e.symm
  walk_at "enter cells"
  k_steps
  unfold Halt
  rename_i g1 L1 h1 tk1 FG1 B1 X1 T1 l1 oc d1 D h2 od lod ids1 ids2 ids3 ids4 l2 h3 F3 N3 _ _ _ _ dd tk3 t3 n3 h4 tk4 lo4 hi4 F4 N4 h5 tk5 ta tb tc hir F5 N5 hkp
  obtain ⟨ep0, rfl⟩ := dict_empty ids1
  clear ids1 ids2 ids3 ids4 N3 F3 hkp
  refine for_range (σ := LS) (fun _ => []) [Str.ofString "length", Str.ofString "prefix", Str.ofString "form"] (fun e => (D, tabD PySem.Challenge.rw_rh0204_01.row.prog w e.xs e.ep) :: (L1 + 1, oc) :: (pa, listOf #[.ref c, .int e.sp e.t] e.n) :: (c, listOf cells.toArray k) :: e.X)
    (fun i e => Ext news e.X ∧ spot + 1 ≤ e.sp ∧ e.sp ≤ spot + 1 + 6 * i ∧ (∀ x ∈ e.xs, DatIn e.X (.ref x.2.1) (pd x.1)) ∧ (e.xs.map (·.1)).Nodup ∧ (∃ rs, Paired (RowOk e.X) e.xs rs ∧ ∀ r ∈ rs, Cn r.1.1 r.1.2 ∧ r.2.ok) ∧ e.xs.length ≤ i)
    ⟨[], ep0, spot + 1, t3, n3, news⟩ rfl hir (small_one (by omega) (by omega) (by omega) (by omega)) (rangeSize_nat _ _) (by assumption) (by assumption) (fun _ h => h) (fun _ h => nomatch h) ⟨.refl _, by dsimp only; omega, by dsimp only; omega, (fun _ h => nomatch h), .nil, ⟨[], .nil, (fun _ h => nomatch h)⟩, by simp⟩ ⟨?_, ?_⟩
  · rintro i iv e u h tk own hi J9_8 J0 hown hoc F6 N6
    refine cps fun Pz kz => ?_
    obtain ⟨ti, rfl⟩ := J9_8
    refine an7 J0 fun j1 j2 j3 j4 j5 z0J0 j8 => ?_
    clear J0
    obtain ⟨rs, j6, j7⟩ := z0J0
    refine kz ?_
    clear kz Pz
    dsimp only at N6 hown ⊢
    replace hi : i < 5 := by omega
    have j9 : e.sp < 140 := by omega
    have oX : ∀ q ∈ e.X, q.1 ≠ pa := off_ext N6 (by k_mem) (by intro e; exact absurd (Value.type.inj e) (by decide)) j1 (fun q hq => List.mem_append_left _ (.tail _ (.tail _ (.tail _ (.tail _ hq))))) hoff
    have ho := off_own hown (.tail _ (.tail _ (.head _)))
    have oXo : ∀ q ∈ e.X ++ own, q.1 ≠ pa := off_app oX ho
    have hDn : ∀ q ∈ news, @Ne Nat q.1 D := fun q hq => Nat.ne_of_lt (allLt_to l2.2.2.2 q hq)
    have oD : ∀ q ∈ e.X, @Ne Nat q.1 D := off_ext N6 (.head _) (by intro e; exact absurd (Value.type.inj e) (by decide)) j1 (fun q hq => List.mem_append_left _ (.tail _ (.tail _ (.tail _ (.tail _ hq))))) hDn
    have hoD := off_own hown (.head _)
    k_steps
    · unfold Halt
      with_reducible rename News _ _ _ _ => N7
      with_reducible rename Fr _ _ _ _ => F7
      with_reducible rename IsRange _ _ _ _ _ _ _ _ => hr2
      refine cps fun Pz kz => ?_
      obtain ⟨nn, hn2, hsm, hsz⟩ := range_mod hr2
      obtain ⟨Y, NY, y1, y2, y3⟩ := led_front N7 (d := pa) (o := listOf #[.ref c, .int (e.sp + 1 + 1 + 1) _] _) (.tail _ (.tail _ (.tail _ (.tail _ (.head _)))))
      refine kz ?_
      clear kz Pz
      have ykey := y2 _ (.tail _ (.head _)) (by k_ne)
      have yD := y2 _ (.tail _ (.tail _ (.head _))) (by k_ne)
      have yoc := y2 _ (.tail _ (.tail _ (.tail _ (.head _)))) (by k_ne)
      have yc := y2 _ (.tail _ (.tail _ (.tail _ (.tail _ (.tail _ (.head _)))))) hcp
      have yX : ∀ q ∈ e.X, q ∈ Y := fun q hq => y2 q (by k_mem) (oX q hq)
      have yown : ∀ q ∈ own, q ∈ Y := fun q hq => y2 q (by k_mem) (ho q hq)
      clear N7 y2
      refine AtSrc.intro (σ := Int × Tok × Nat) (fun e' => (pa, listOf #[.ref c, .int e'.1 e'.2.1] e'.2.2) :: Y) (fun i ys e' => e.sp + 3 ≤ e'.1 ∧ e'.1 ≤ e.sp + 3 + i ∧ ys.length = i ∧ ∃ gs : List Int, DatAll [] ys (gs.map .int) ∧ ∀ g ∈ gs, 0 ≤ g ∧ g < 8) ⟨e.sp + 1 + 1 + 1, _, _⟩ (by assumption) NY (fun _ h => h) (srcRange rfl hr2 hsm hsz (by omega)) (fun _ _ _ _ => trivial) ⟨by dsimp only; omega, by dsimp only; omega, rfl, [], .nil, (fun _ h => nomatch h)⟩ ?_ ?_
      · rintro i v ys J9_3 I oI C oC D2 m₂ h tk E' hi J9_14 J9_15 hC hx hI F8 N8 off ne
        refine cps fun Pz kz => ?_
        obtain ⟨sp, tq, nq⟩ := J9_3
        obtain ⟨tv, rfl⟩ := J9_14
        obtain ⟨q1, q2, q3, gs, q4, q5⟩ := J9_15
        dsimp only at q1 q2 N8 off
        obtain ⟨⟨n1, n2, n3⟩, offY⟩ := id off
        refine kz ?_
        clear kz Pz
        unfold testsC
        refine wpAny_tests_nil ?_
        rw [if_pos rfl]
        k_steps
        unfold Halt
        refine CompEnd.intro (by assumption) (by assumption) _ (fun _ h => h) ?_ trivial ⟨(sp + 1, _, _), rfl, ?_⟩
        · exact ⟨⟨n1, n2, n3⟩, offY⟩
        · exact ⟨by dsimp only; omega, by dsimp only; omega, by simp [q3], gs ++ [_], by rw [List.map_append]; exact q4.append (.one (.int _ _)), fun g hg => by
            revert g
            refine fapp (fun g hg => ?_) fun g hg => ?_
            · exact q5 g hg
            · rw [List.mem_singleton.mp hg]; exact ⟨by assumption, by assumption⟩⟩
      · rintro ys J9_1 J9_2 D2 h tk F8 N8 off
        refine cps fun Pz kz => ?_
        obtain ⟨sp, tq, nq⟩ := J9_1
        obtain ⟨q1, q2, q3, gs, dgs, hg8⟩ := J9_2
        dsimp only at q1 q2 N8 off
        have hgl := dgs.length
        rw [List.length_map] at hgl
        obtain ⟨_, offY⟩ := id off
        refine kz ?_
        clear kz Pz
        k_steps
        unfold Halt
        with_reducible rename News _ _ _ _ => N9
        refine' store_row (wo := .via gs) ((L1 + 1, oc) :: (pa, ?po3) :: (c, listOf cells.toArray k) :: own) (by assumption) (by assumption) (by k_mem) lod (.tuple (by k_mem) (.cons (.int _ _) (.cons (.int _ _) .nil))) (.tuple (by k_mem) (.cons (.str _ _) (.cons (.tuple (by k_mem) (dgs.mono fun _ h => absurd h List.not_mem_nil)) .nil))) (fun q hq => by have := yX q hq; k_mem) oD ?hx3 ?hxD3 j4 j5 j6 (by omega) (by ktr_units) ?hh3
        case hx3 =>
          refine fa ?_ (fa ?_ (fa ?_ fun q hq => ?_))
          · k_mem
          · k_mem
          · k_mem
          · have := yown q hq
            k_mem
        case hxD3 =>
          refine fa ?_ (fa ?_ (fa ?_ fun q hq => ?_))
          · exact Nat.ne_of_lt l2.1
          · exact Nat.ne_of_lt l2.2.1
          · exact Nat.ne_of_lt l2.2.2.1
          · exact hoD q hq
        intro hA tkA epA XA rsA FA NA exA kkA nnA ppA prA
        obtain ⟨tq, nq, N8⟩ := pool_of NA
        k_steps
        refine Aft.intro (LS.mk _ epA sp tq nq XA) (by assumption) N8 mem_four (fun q hq => .tail _ (.tail _ (.tail _ (.tail _ (List.mem_append_left _ hq))))) (own_close N8 hown hoc exA) (fun _ h => nomatch h) (by walk_at "names stay") ⟨j1.trans exA, by dsimp only; omega, by dsimp only; omega, kkA, nnA, ⟨rsA, ppA, fun r hr => ?_⟩, Nat.le_trans (put_length _ _ _ _) (by omega)⟩
        rcases prA r hr with h | rfl
        · exact j7 r h
        · exact ⟨drawn_Cn (by omega) (by omega) (by assumption) (by assumption), by omega, hg8⟩
    · unfold Halt
      with_reducible rename News _ _ _ _ => N7
      refine' store_row (wo := .direct _) ((L1 + 1, oc) :: (pa, ?po) :: (c, listOf cells.toArray k) :: own) (by assumption) (by assumption) (by k_mem) lod (.tuple (by k_mem) (.cons (.int _ _) (.cons (.int _ _) .nil))) (.tuple (by k_mem) (.cons (.str _ _) (.cons (.int _ _) .nil))) (fun q hq => by k_mem) oD ?hr ?hrD j4 j5 j6 (by omega) (by ktr_units) ?hh
      case hr =>
        refine fa ?_ (fa ?_ (fa ?_ fun q hq => ?_))
        · k_mem
        · k_mem
        · k_mem
        · k_mem
      case hrD =>
        refine fa ?_ (fa ?_ (fa ?_ fun q hq => ?_))
        · exact Nat.ne_of_lt l2.1
        · exact Nat.ne_of_lt l2.2.1
        · exact Nat.ne_of_lt l2.2.2.1
        · exact hoD q hq
      intro hA tkA epA XA rsA FA NA exA kkA nnA ppA prA
      obtain ⟨tq, nq, N8⟩ := pool_of NA
      k_steps
      refine Aft.intro (LS.mk _ epA (e.sp + 1 + 1 + 1 + 1) tq nq XA) (by assumption) N8 mem_four (fun q hq => .tail _ (.tail _ (.tail _ (.tail _ (List.mem_append_left _ hq))))) (own_close N8 hown hoc exA) (fun _ h => nomatch h) (by walk_at "names stay") ⟨j1.trans exA, by dsimp only; omega, by dsimp only; omega, kkA, nnA, ⟨rsA, ppA, fun r hr => ?_⟩, Nat.le_trans (put_length _ _ _ _) (by omega)⟩
      rcases prA r hr with h | rfl
      · exact j7 r h
      · exact ⟨drawn_Cn (by omega) (by omega) (by assumption) (by assumption), ⟨by assumption, by assumption⟩⟩
    · unfold Halt
      with_reducible rename News _ _ _ _ => N7
      refine' store_row (wo := .sink) ((L1 + 1, oc) :: (pa, ?po2) :: (c, listOf cells.toArray k) :: own) (by assumption) (by assumption) (by k_mem) lod (.tuple (by k_mem) (.cons (.int _ _) (.cons (.int _ _) .nil))) (.tuple (by k_mem) (.cons (.str _ _) .nil)) (fun q hq => by k_mem) oD ?hx2 ?hxD2 j4 j5 j6 (by omega) (by ktr_units) ?hh2
      case hx2 =>
        refine fa ?_ (fa ?_ (fa ?_ fun q hq => ?_))
        · k_mem
        · k_mem
        · k_mem
        · k_mem
      case hxD2 =>
        refine fa ?_ (fa ?_ (fa ?_ fun q hq => ?_))
        · exact Nat.ne_of_lt l2.1
        · exact Nat.ne_of_lt l2.2.1
        · exact Nat.ne_of_lt l2.2.2.1
        · exact hoD q hq
      intro hA tkA epA XA rsA FA NA exA kkA nnA ppA prA
      obtain ⟨tq, nq, N8⟩ := pool_of NA
      k_steps
      refine Aft.intro (LS.mk _ epA (e.sp + 1 + 1 + 1) tq nq XA) (by assumption) N8 mem_four (fun q hq => .tail _ (.tail _ (.tail _ (.tail _ (List.mem_append_left _ hq))))) (own_close N8 hown hoc exA) (fun _ h => nomatch h) (by walk_at "names stay") ⟨j1.trans exA, by dsimp only; omega, by dsimp only; omega, kkA, nnA, ⟨rsA, ppA, fun r hr => ?_⟩, Nat.le_trans (put_length _ _ _ _) (by omega)⟩
      rcases prA r hr with h | rfl
      · exact j7 r h
      · exact ⟨drawn_Cn (by omega) (by omega) (by assumption) (by assumption), trivial⟩
  · rintro e u h tk J1 F6 N6
    refine cps fun Pz kz => ?_
    refine an7 J1 fun j1 j2 j3 j4 j5 z0J1 j8 => ?_
    clear J1
    obtain ⟨rs, j6, j7⟩ := z0J1
    refine kz ?_
    clear kz Pz
    dsimp only at N6
    k_steps
    with_reducible rename News _ _ _ _ => N7
    refine hret _ ((D, tabD PySem.Challenge.rw_rh0204_01.row.prog w e.xs e.ep) :: (pa, listOf #[.ref c, .int e.sp e.t] e.n) :: (c, listOf cells.toArray k) :: e.X) _ _ (by assumption) (fun q hq => N7 q ?_) ⟨D, e.xs, e.ep, rs, e.sp, e.t, e.n, e.X, rfl, rfl, j1, by omega, by omega, lod, j4, j5, j6, ?_, j7⟩
    · revert q
      refine fa ?_ fun q hq => ?_
      · exact .head _
      · exact .tail _ (.tail _ hq)
    · have := j6.length
      omega
end
section
open LCg
section
variable {prog : Program} {w : World} {A : Around} {E : Value → Shared → Prop} {s : Shared} {h₀ : Heap} {L : Addr} {m : Str → Option Value} {news : List (Addr × Obj)}
theorem keys_dats {xs : List Row} (hk : ∀ x ∈ xs, DatIn news (.ref x.2.1) (pd x.1)) : DatAll news (xs.map fun x => Value.ref x.2.1) ((xs.map (·.1)).map pd) := by
  induction xs with
  | nil => exact .nil
  | cons x r ih => exact .cons (hk x (.head _)) (ih fun y hy => hk y (.tail _ hy))
theorem sorted_dict {D : Addr} {xs : List Row} {ep : Nat} {Q : Value → Shared → Prop} (lo : (D == sysModules) = false) (hh : A.handled = none) (F : Fr h₀ L s.heap m) (N : News h₀ L s.heap news) (hm : (D, tabD prog w xs ep) ∈ news) (hk : ∀ x ∈ xs, DatIn news (.ref x.2.1) (pd x.1)) (hn : (xs.map (·.1)).Nodup)
    (hr : ∀ p ∈ xs.map (·.1), 0 ≤ p.2 ∧ p.2 < 100) (h64 : xs.length < 64)
    (h : ∀ D c h' tk vs' ps', Fr h₀ L h' m → News h₀ L h' ((D, listOf vs'.toArray c) :: news) → (∀ q ∈ news, q.1 < D) → DatAll news vs' (ps'.map pd) → ps'.Perm (xs.map (·.1)) → Asc ps' → Q (.ref D) { s with heap := h', toks := tk }) :
    wpAny (model prog w) A (call (.builtin "sorted") [.ref D]) Q E s := by
  refine sorted_pairs (vs := xs.map fun x => Value.ref x.2.1) F N (keys_dats hk) hn hr (by rw [List.length_map]; exact h64) (fun Q' hQ => ?_) h
  have := coll_dict (prog := prog) (w := w) (E := E) (A := A.in1) lo hh F N hm (by simp; omega) Q'
  have e : (List.map (entP prog w) xs).toArray.toList.map (·.key) = xs.map fun x => Value.ref x.2.1 := by simp [entP, entryOfKey, kyR]
  rw [e] at this
  exact this hQ
end
theorem putL_keys (D : List KV) (k : Int × Int) (v : Value) : ∀ q, q ∈ (putL D k v).map (·.1) ↔ q ∈ D.map (·.1) ∨ q = k := by
  intro q
  unfold putL
  by_cases h : (D.find? fun x => decide (x.1 = k)).isSome = true
  · rw [if_pos h, List.map_map]
    have e : ((·.1) ∘ fun x : KV => if x.1 = k then (x.1, v) else x) = fun x : KV => x.1 := by
      funext x
      show (if x.1 = k then (x.1, v) else x).1 = x.1
      split <;> rfl
    rw [e]
    refine ⟨.inl, fun hq => hq.elim id fun e => ?_⟩
    rw [List.find?_isSome] at h
    obtain ⟨x, hx, hd⟩ := h
    rw [e, ← of_decide_eq_true hd]
    exact List.mem_map.mpr ⟨x, hx, rfl⟩
  · rw [if_neg h, List.map_append, List.mem_append]
    simp
theorem fold_keys (ps : List KV) : ∀ (D : List KV) (q : Int × Int), q ∈ (ps.foldl (fun D p => putL D p.1 p.2) D).map (·.1) ↔ q ∈ D.map (·.1) ∨ q ∈ ps.map (·.1) := by
  induction ps with
  | nil => intro D q; simp
  | cons p r ih =>
    intro D q
    rw [List.foldl_cons, ih, putL_keys, List.map_cons, List.mem_cons]
    constructor
    · rintro ((h | h) | h)
      · exact .inl h
      · exact .inr (.inl h)
      · exact .inr (.inr h)
    · rintro (h | h | h)
      · exact .inl (.inl h)
      · exact .inl (.inr h)
      · exact .inr h
theorem fold_plain (ps : List KV) : ∀ (D : List KV), ((D ++ ps).map (·.1)).Nodup → ps.foldl (fun D p => putL D p.1 p.2) D = D ++ ps := by
  induction ps with
  | nil => intro D _; simp
  | cons p r ih =>
    intro D hn
    have hno : (D.find? fun x => decide (x.1 = p.1)).isSome = false := by
      cases hf : (D.find? fun x => decide (x.1 = p.1)).isSome with
      | false => rfl
      | true =>
        rw [List.find?_isSome] at hf
        obtain ⟨x, hx, hd⟩ := hf
        rw [List.map_append, List.map_cons, List.nodup_append] at hn
        exact absurd (of_decide_eq_true hd) (hn.2.2 x.1 (List.mem_map.mpr ⟨x, hx, rfl⟩) p.1 (.head _))
    have e : putL D p.1 p.2 = D ++ [p] := by unfold putL; rw [hno]; rfl
    rw [List.foldl_cons, e, ih _ (by rw [List.append_assoc]; exact hn), List.append_assoc]
    rfl
noncomputable def kvLook (kv : List KV) (k : Int × Int) : Option Value := (kv.find? fun x => decide (x.1 = k)).map (·.2)
theorem tabLook_kv (xs : List Row) (k : Int × Int) : tabLook xs k = kvLook (xs.map kvR) k := by
  unfold tabLook kvLook
  rw [List.find?_map, Option.map_map]
  rfl
theorem kvLook_mem {kv : List KV} (hn : (kv.map (·.1)).Nodup) {p : KV} (hp : p ∈ kv) : kvLook kv p.1 = some p.2 := by
  induction kv with
  | nil => cases hp
  | cons q r ih =>
    rw [List.map_cons, List.nodup_cons] at hn
    unfold kvLook
    rw [List.find?_cons]
    rcases List.mem_cons.mp hp with rfl | hp
    · rw [decide_eq_true rfl]; rfl
    · rw [decide_eq_false (fun e => hn.1 (List.mem_map.mpr ⟨p, hp, e.symm⟩))]
      exact ih hn.2 hp
theorem tabLook_mem {xs : List Row} (hn : (xs.map (·.1)).Nodup) {x : Row} (hx : x ∈ xs) : tabLook xs x.1 = some x.2.2 := by
  rw [tabLook_kv]
  exact kvLook_mem (p := kvR x) (by rw [List.map_map]; exact hn) (List.mem_map.mpr ⟨x, hx, rfl⟩)
theorem tabPut_new {xs : List Row} {k : Int × Int} {a : Addr} {v : Value} (h : k ∉ xs.map (·.1)) : tabPut xs k a v = xs ++ [(k, a, v)] := by
  unfold tabPut
  rw [if_neg]
  intro hs
  unfold tabLook at hs
  rw [Option.isSome_map, List.find?_isSome] at hs
  obtain ⟨x, hx, hd⟩ := hs
  exact h (List.mem_map.mpr ⟨x, hx, of_decide_eq_true hd⟩)
theorem rows_look {X : List (Addr × Obj)} {xs : List Row} {rs : List RowW} (hp : Paired (RowOk X) xs rs) (hn : (xs.map (·.1)).Nodup) {r : RowW} (hr : r ∈ rs) : ∃ v, tabLook xs r.1 = some v ∧ DatIn X v r.2.dat := by
  obtain ⟨x, hx, h1, h2⟩ := (paired_ex hp).2 r hr
  exact ⟨_, by rw [← h1]; exact tabLook_mem hn hx, h2⟩
end
section
open LCg
section
variable {prog : Program} {w : World} {A : Around} {E : Value → Shared → Prop} {s : Shared} {h₀ : Heap} {L : Addr} {m : Str → Option Value} {led n₁ n₂ : List (Addr × Obj)}
theorem Tab.mono {d : Addr} {xs : List Row} {ep : Nat} (T : Tab prog w n₁ d xs ep) (hs : ∀ q ∈ n₁, q ∈ n₂) : Tab prog w n₂ d xs ep := ⟨T.lo, hs _ T.mem, fun x hx => (T.keys x hx).mono hs, T.nodup⟩
theorem tab_tail {value slice : Expr} {d a : Addr} {xs : List Row} {ep : Nat} {k : Int × Int} {v : Value} {Q : Value → Shared → Prop} (N : News h₀ L s.heap led) (T : Tab prog w n₁ d xs ep) (s1 : ∀ q ∈ n₁, q ∈ led) (hk : DatIn n₂ (.ref a) (pd k)) (s2 : ∀ q ∈ n₂, q ∈ led) (hu : A.units + 1 < cLine) (hv : tabLook xs k = some v)
    (h : ∀ tk, Q v { s with toks := tk }) (hs : subscripted slice false (.ref d) (.ref a) = operate [.ref d, .ref a] (getItem (.ref d) (.ref a)) := by with_unfolding_all rfl) : wpAny (model prog w) A (subscriptTail value slice (.ref d) (.ref a)) Q E s :=
  tail_any ⟨_, N.get (s1 _ T.mem), rfl⟩ slot_dict_getitem.lookup (tab_get N (T.mono s1) (hk.mono s2) hu hv h) hs
theorem last_tail {value slice : Expr} {l : Addr} {c : Nat} {vs : List Value} {t : Tok} {v : Value} {Q : Value → Shared → Prop} (N : News h₀ L s.heap led) (hm : (l, listOf vs.toArray c) ∈ led) (hv : vs[vs.length - 1]? = some v) (hz : vs.length ≤ 1000) (h : Q v s)
    (hs : subscripted slice false (.ref l) (.int (-1) t) = operate [.ref l, .int (-1) t] (getItem (.ref l) (.int (-1) t)) := by with_unfolding_all rfl) : wpAny (model prog w) A (subscriptTail value slice (.ref l) (.int (-1) t)) Q E s := by
  have hlen : vs.length - 1 < vs.length := by
    rcases Nat.lt_or_ge (vs.length - 1) vs.length with h | h
    · exact h
    · rw [List.getElem?_eq_none h] at hv; cases hv
  have hl : s.heap.IsList l vs.toArray := ⟨_, N.get hm, rfl, _, rfl⟩
  refine tail_any hl.typeIs slot_list_getitem.lookup (wpAny_getItem_list_neg hl (by decide) (by rw [List.size_toArray]; omega) (by decide) ?_ h) hs
  obtain ⟨n, hn⟩ : ∃ n, vs.length = n + 1 := Nat.exists_eq_succ_of_ne_zero fun e => by rw [e] at hlen; exact absurd hlen (Nat.not_lt_zero _)
  rw [hn] at hv
  rw [List.size_toArray, hn, show ((-1 : Int) + ((n + 1 : Nat) : Int)).toNat = n by rw [Int.natCast_succ, Int.add_comm, Int.add_neg_cancel_right]; rfl]
  simpa using hv
end
/-- no object of X lies at one of these places -/
noncomputable def Apart (F X : List (Addr × Obj)) : Prop := ∀ q ∈ X, ∀ p ∈ F, @Ne Nat q.1 p.1
theorem Apart.fresh {F X : List (Addr × Obj)} {D : Addr} {o : Obj} (h : Apart F X) (hD : ∀ p ∈ F, @LT.lt Nat _ p.1 D) : Apart F ((D, o) :: X) := fun q hq p hp => by
  rcases List.mem_cons.mp hq with rfl | hq
  · exact Nat.ne_of_gt (hD p hp)
  · exact h q hq p hp
theorem apart_ext {h₀ h : Heap} {L : Addr} {F X led Y : List (Addr × Obj)} (N : News h₀ L h Y) (e : Ext led Y) (hX : ∀ q ∈ X, q ∈ led) (hF : ∀ p ∈ F, p ∈ led ∧ p.2.cls ≠ .type "tuple") (ap : Apart F X) :
    ∃ Z, Ext X Z ∧ Apart F Z ∧ (∀ q ∈ Z, q ∈ Y) ∧ (∀ q ∈ Y, IsTup q.2 → q ∈ Z) ∧ ∀ p ∈ F, p ∈ Y := by
  classical
  refine ⟨Y.filter fun q => decide (q ∈ X ∨ q.2.cls = .type "tuple"), ⟨fun q hq => List.mem_filter.mpr ⟨e.1 q (hX q hq), decide_eq_true (.inl hq)⟩, fun q hq => of_decide_eq_true (List.mem_filter.mp hq).2⟩, fun q hq p hp => ?_, fun q hq => (List.mem_filter.mp hq).1, fun q hq ⟨a, b, ht⟩ => List.mem_filter.mpr ⟨hq, decide_eq_true (.inr (by rw [ht]))⟩, fun p hp => e.1 p (hF p hp).1⟩
  obtain ⟨h1, h2⟩ := List.mem_filter.mp hq
  rcases of_decide_eq_true h2 with h3 | h3
  · exact ap q h3 p hp
  · intro ec
    have h4 : (q.1, p.2) ∈ Y := by
      have := e.1 p (hF p hp).1
      rw [show p = (p.1, p.2) from rfl] at this
      rw [ec]; exact this
    exact (hF p hp).2 (by rw [← led_fn N h1 h4]; exact h3)
/-- the j-th table, at dj -/
noncomputable def TabAt (prog : Program) (w : World) (rs : List RowW) (lk : Int → Hit) (X : List (Addr × Obj)) (j : Nat) (dj : Addr) : Prop :=
  ∃ xs ep, Tab prog w X dj xs ep ∧ ∀ r ∈ rs, ∃ l vs c ps, tabLook xs r.1 = some (.ref l) ∧ (l, listOf vs.toArray c) ∈ X ∧ DatAll X vs (ps.map pd) ∧ Asc ps ∧ ∀ h, h ∈ ps ↔ Bh lk j r.2 h
theorem TabAt.mono {prog : Program} {w : World} {rs : List RowW} {lk : Int → Hit} {X Z : List (Addr × Obj)} {j : Nat} {dj : Addr} (hs : ∀ q ∈ X, q ∈ Z) (h : TabAt prog w rs lk X j dj) : TabAt prog w rs lk Z j dj := by
  obtain ⟨xs, ep, T, hr⟩ := h
  refine ⟨xs, ep, T.mono hs, fun r hr' => ?_⟩
  obtain ⟨l, vs, c, ps, h1, h2, h3, h4⟩ := hr r hr'
  exact ⟨l, vs, c, ps, h1, hs _ h2, h3.mono hs, h4⟩
end
section
open LCg
theorem TabAt.keep {prog : Program} {w : World} {rs : List RowW} {lk : Int → Hit} {X Y : List (Addr × Obj)} {j : Nat} {dj : Addr} (hs : ∀ q ∈ X, (∀ v, q.2.data ≠ .cell v) → q ∈ Y) (h : TabAt prog w rs lk X j dj) : TabAt prog w rs lk Y j dj := by
  have ht : ∀ q ∈ X, IsTup q.2 → q ∈ Y := fun q hq ⟨a, b, e⟩ => hs q hq fun v e2 => by rw [e] at e2; cases e2
  obtain ⟨xs, ep, T, hr⟩ := h
  refine ⟨xs, ep, ⟨T.lo, hs _ T.mem (fun v e => by cases e), fun x hx => dat_tup ht (T.keys x hx) (by simp [NoL, NoLs]), T.nodup⟩, fun r hr' => ?_⟩
  obtain ⟨l, vs, c, ps, h1, h2, h3, h4⟩ := hr r hr'
  exact ⟨l, vs, c, ps, h1, hs _ h2 (fun v e => by cases e), dats_tup ht h3 (noL_pds _), h4⟩
section
variable {prog : Program} {w : World} {A : Around} {E : Value → Shared → Prop} {s : Shared} {h₀ : Heap} {L : Addr} {m : Str → Option Value} {led : List (Addr × Obj)}
theorem item_tail {value slice : Expr} {l : Addr} {c : Nat} {vs : List Value} {i : Int} {t : Tok} {v : Value} {Q : Value → Shared → Prop} (N : News h₀ L s.heap led) (hm : (l, listOf vs.toArray c) ∈ led) (h0 : 0 ≤ i) (hi : i < 1000) (hv : vs[i.toNat]? = some v) (h : Q v s)
    (hs : subscripted slice false (.ref l) (.int i t) = operate [.ref l, .int i t] (getItem (.ref l) (.int i t)) := by with_unfolding_all rfl) : wpAny (model prog w) A (subscriptTail value slice (.ref l) (.int i t)) Q E s := by
  have hl : s.heap.IsList l vs.toArray := ⟨_, N.get hm, rfl, _, rfl⟩
  exact tail_any hl.typeIs slot_list_getitem.lookup (wpAny_getItem_list hl h0 (by omega) (by simpa using hv) h) hs
theorem kms_most {vs : List Value} {most : Int} (h : 1 ≤ most) : kms_pick vs none (some most) = vs.take most.toNat := by
  have h1 : kms_lo none vs.length = 0 := rfl
  have h2 : kms_hi (some most) vs.length = min most.toNat vs.length := by
    show (if most < 0 then vs.length - (-most).toNat else min most.toNat vs.length) = _
    rw [if_neg (by omega)]
  unfold kms_pick
  rw [h1, h2, List.drop_zero, Nat.sub_zero, ← List.take_take, List.take_length]
theorem slice_tail {value slice : Expr} {l : Addr} {its : Array Value} {vl vu : Value} {lo hi : Option Int} {ops : List Value} {Q : Value → Shared → Prop} (F : Fr h₀ L s.heap m) (N : News h₀ L s.heap led) (hl : s.heap.IsList l its) (pl : IsPart vl lo) (pu : IsPart vu hi)
    (h : ∀ D h', Fr h₀ L h' m → News h₀ L h' ((D, listOf (slicePick its lo hi none) 0) :: led) → (∀ p ∈ led, p.1 < D) → Q (.ref D) { s with heap := h' })
    (hs : subscripted slice false (.ref l) (.ref s.heap.objs.size) = operate ops (getItem (.ref l) (.ref s.heap.objs.size))) (hz : its.size ≤ sizeLine) :
    wpAny (model prog w) A (subscriptTail value slice (.ref l) (.ref s.heap.objs.size)) Q E { s with heap := s.heap.push { cls := .type "slice", data := .fields #[vl, vu, .none] } } := by
  refine tail_any (Heap.IsList.typeIs (s := { s with heap := s.heap.push { cls := .type "slice", data := .fields #[vl, vu, .none] } }) (hl.push _)) slot_list_getitem.lookup
    (wpAny_getItem_list_slice (hl.push _) (Heap.IsSliceOf.new ..) pl pu .none (by simp) ?_ hz) hs
  have N1 := News.push (F.push { cls := .type "slice", data := .fields #[vl, vu, .none] }) (N.grown fun _ _ e => Heap.get?_push_of_some _ e) { cls := .type "list", data := .seq (slicePick its lo hi none) }
  rw [Heap.size_push] at N1
  show Q (.ref (s.heap.push _).objs.size) _
  rw [Heap.size_push]
  exact h _ _ ((F.push _).push _) N1 fun p hp => Nat.lt_succ_of_lt (Heap.lt_size (N p hp).1)
end
end
section
theorem fresh42 : True := by w_top off; trivial
open LCg

local macro_rules | `(tactic| walk_at "AtSrc") => `(tactic| (k_here; refine halt ?_))
local macro_rules | `(tactic| walk_at "CompEnd") => `(tactic| (k_here; refine halt ?_))
local macro_rules | `(tactic| walk_at "call type:dict") => `(tactic| (k_here; refine halt ?_))
local macro_rules | `(tactic| walk_at "subscriptTail") => `(tactic| (k_here; (with_reducible show wpAny _ _ (subscriptTail _ _ (Value.ref _) (Value.ref _)) _ _ _); refine halt ?_))
local macro_rules | `(tactic| walk_at "setItem ref ref") => `(tactic| (k_here; refine halt ?_))
theorem comp_end2 {h₀ h : Heap} {L I C D t l : Addr} {m : Str → Option Value} {s₁ : Shared} {oI oC oD ot ol : Obj} {X : List (Addr × Obj)} {rest : Value → List (Addr × Obj) → Prop} {y : Value} {tk : Nat}
    (F : Fr h₀ L h m) (N : News h₀ L h ((t, ot) :: (l, ol) :: (I, oI) :: (C, oC) :: (D, oD) :: X)) (ht : @LT.lt Nat _ I t ∧ @LT.lt Nat _ C t ∧ @LT.lt Nat _ D t) (hl : @LT.lt Nat _ I l ∧ @LT.lt Nat _ C l ∧ @LT.lt Nat _ D l) (off : Off3 I C D X) (r : rest y ((t, ot) :: (l, ol) :: X)) :
    CompEnd h₀ L m s₁ I oI C oC D oD (fun _ => True) rest y { s₁ with heap := h, toks := tk } := by
  refine CompEnd.intro F N ((t, ot) :: (l, ol) :: X) (fun q hq => ?_) ⟨⟨Nat.ne_of_gt ht.1, Nat.ne_of_gt ht.2.1, Nat.ne_of_gt ht.2.2⟩, ⟨Nat.ne_of_gt hl.1, Nat.ne_of_gt hl.2.1, Nat.ne_of_gt hl.2.2⟩, off⟩ trivial r
  revert q; (repeat' (first | refine fa ?_ ?_ | refine fapp ?_ ?_)); all_goals first | k_mem | (intro q hq; k_mem)
structure B1S where
  fl : List Value
  fe : Nat
  X : List (Addr × Obj)
theorem tab_zero {prog : Program} {w : World} {rs : List RowW} {lk : Int → Hit} {X : List (Addr × Obj)} {D0 : Addr} {xs0 : List Row} {ep0 : Nat} {ps : List KV} (T : Tab prog w X D0 xs0 ep0) (e0 : xs0.map kvR = ps.foldl (fun D p => putL D p.1 p.2) []) (hk : ps.map (·.1) = rs.map (·.1)) (hn : (rs.map (·.1)).Nodup)
    (hp : ∀ kv ∈ ps, ∃ l c, kv.2 = .ref l ∧ (l, listOf ([] : List Value).toArray c) ∈ X) : TabAt prog w rs lk X 0 D0 := by
  have hps : xs0.map kvR = ps := by rw [e0, fold_plain ps [] (by rw [List.nil_append, hk]; exact hn)]; rfl
  refine ⟨xs0, ep0, T, fun r hr => ?_⟩
  have hm : r.1 ∈ ps.map (·.1) := by rw [hk]; exact List.mem_map.mpr ⟨r, hr, rfl⟩
  refine cps fun Pz kz => ?_
  obtain ⟨kv, hkv, e⟩ := List.mem_map.mp hm
  obtain ⟨l, c, e1, e2⟩ := hp kv hkv
  refine kz ?_
  clear kz Pz
  refine ⟨l, [], c, [], ?_, e2, .nil, .nil, fun h => ⟨fun h => (nomatch h), fun h => h.elim⟩⟩
  rw [tabLook_kv, hps, ← e, kvLook_mem (by rw [hk]; exact hn) hkv, e1]
structure B2S where
  xs : List Row
  ep : Nat
  X : List (Addr × Obj)
structure B3S where
  ev : List Value
  ee : Nat
  es : List (Int × Int)
  X : List (Addr × Obj)
/-- what a choice of a tuple of addresses leaves -/
noncomputable def EndTup (h₀ : Heap) (L : Addr) (m : Str → Option Value) (s : Shared) (F X : List (Addr × Obj)) (gs : List Int) (v : Value) (s' : Shared) : Prop :=
  ∃ t3 vs3 k3 h' tk' X', v = .ref t3 ∧ s' = { s with heap := h', toks := tk' } ∧ Fr h₀ L h' m ∧ News h₀ L h' (F ++ X') ∧ (∀ q ∈ X, q ∈ X') ∧ Apart F X' ∧ (t3, ({ cls := .type "tuple", data := .seq (List.toArray vs3) k3 } : Obj)) ∈ X' ∧ DatAll X' vs3 (gs.map .int)
noncomputable def EndList (h₀ : Heap) (L : Addr) (m : Str → Option Value) (s : Shared) (F X : List (Addr × Obj)) (P : List (Int × Int) → Prop) (v : Value) (s' : Shared) : Prop :=
  ∃ l vs k h' tk' X' es, v = .ref l ∧ s' = { s with heap := h', toks := tk' } ∧ Fr h₀ L h' m ∧ News h₀ L h' (F ++ X') ∧ (∀ q ∈ X, q ∈ X') ∧ Apart F X' ∧ (l, listOf (List.toArray vs) k) ∈ X' ∧ DatAll X' vs (List.map pd es) ∧ P es
noncomputable def viasOf : Wo → List Int
  | .via gs => gs
  | _ => []
theorem to_tup {M : Model} {A : Around} {tree : Sem Value} {E : Value → Shared → Prop} {h₀ : Heap} {L : Addr} {m : Str → Option Value} {s₁ : Shared} {F3 X : List (Addr × Obj)} {Q : Value → Shared → Prop} (gs : List Int) (F : Fr h₀ L s₁.heap m)
    (h : wpAny M A tree (EndTup h₀ L m s₁ F3 X gs) (fun _ _ => False) s₁)
    (k : ∀ t3 vs3 k3 h' tk' X', Fr h₀ L h' m → News h₀ L h' (F3 ++ X') → (∀ q ∈ X, q ∈ X') → Apart F3 X' → (t3, ({ cls := .type "tuple", data := .seq (List.toArray vs3) k3 } : Obj)) ∈ X' → DatAll X' vs3 (gs.map .int) → Q (.ref t3) { s₁ with heap := h', toks := tk' }) : wpAny M A tree Q E s₁ := by
  refine wpAny_mono h (fun v s' hq => ?_) fun _ _ e => e.elim
  refine cps fun Pz kz => ?_
  obtain ⟨t3, vs3, k3, h', tk', X', rfl, rfl, a, b, c, d, e, f⟩ := hq
  refine kz ?_
  clear kz Pz
  exact k t3 vs3 k3 h' tk' X' a b c d e f
theorem to_list {M : Model} {A : Around} {tree : Sem Value} {E : Value → Shared → Prop} {h₀ : Heap} {L : Addr} {m : Str → Option Value} {s₁ : Shared} {F3 X : List (Addr × Obj)} {Q : Value → Shared → Prop} (P : List (Int × Int) → Prop) (F : Fr h₀ L s₁.heap m)
    (h : wpAny M A tree (EndList h₀ L m s₁ F3 X P) (fun _ _ => False) s₁)
    (k : ∀ l vs k h' tk' X' es, Fr h₀ L h' m → News h₀ L h' (F3 ++ X') → (∀ q ∈ X, q ∈ X') → Apart F3 X' → (l, listOf (List.toArray vs) k) ∈ X' → DatAll X' vs (List.map pd es) → P es → Q (.ref l) { s₁ with heap := h', toks := tk' }) : wpAny M A tree Q E s₁ := by
  refine wpAny_mono h (fun v s' hq => ?_) fun _ _ e => e.elim
  refine cps fun Pz kz => ?_
  obtain ⟨l, vs, kk, h', tk', X', es, rfl, rfl, a, b, c, d, e, f, g⟩ := hq
  refine kz ?_
  clear kz Pz
  exact k l vs kk h' tk' X' es a b c d e f g
theorem end_nil {h₀ h' : Heap} {L D' a1 a2 a3 : Addr} {o1 o2 o3 : Obj} {m : Str → Option Value} {s : Shared} {own X : List (Addr × Obj)} {tk' : Nat} (F : Fr h₀ L h' m) (N : News h₀ L h' ((D', ({ cls := .type "tuple", data := .seq #[] } : Obj)) :: (a1, o1) :: (a2, o2) :: (a3, o3) :: (own ++ X))) (lt : @LT.lt Nat _ a1 D' ∧ @LT.lt Nat _ a2 D' ∧ @LT.lt Nat _ a3 D' ∧ AllLt D' (own ++ X))
    (ap : Apart ((a1, o1) :: (a2, o2) :: (a3, o3) :: own) X) : EndTup h₀ L m s ((a1, o1) :: (a2, o2) :: (a3, o3) :: own) X [] (.ref D') { s with heap := h', toks := tk' } := by
  refine ⟨D', [], _, h', tk', (D', ({ cls := .type "tuple", data := .seq #[] } : Obj)) :: X, rfl, rfl, F, fun q hq => N q ?_, fun _ h => .tail _ h, ap.fresh fun p hp => ?_, .head _, .nil⟩
  · revert q; (repeat' (first | refine fa ?_ ?_ | refine fapp ?_ ?_)); all_goals first | k_mem | (intro q hq; k_mem)
  · revert p
    refine fa ?_ (fa ?_ (fa ?_ fun p hp => ?_))
    · exact lt.1
    · exact lt.2.1
    · exact lt.2.2.1
    · exact allLt_to lt.2.2.2 p (List.mem_append_left _ hp)
local macro_rules | `(tactic| walk_at "EndTup") => `(tactic| (k_here; refine halt ?_))
local macro_rules | `(tactic| walk_at "EndList") => `(tactic| (k_here; refine halt ?_))
local macro_rules | `(tactic| walk_at "eval IfExp") => `(tactic| (k_here; refine halt ?_))
local macro_rules | `(tactic| walk_at "call builtin:sorted") => `(tactic| (k_here; refine halt ?_))
local macro_rules | `(tactic| walk_at "call builtin:list.append") => `(tactic| (k_here; refine halt ?_))
local macro_rules | `(tactic| walk_at "call builtin:list.extend") => `(tactic| (k_here; refine halt ?_))
local macro_rules | `(tactic| walk_at "call ref") => `(tactic| (k_here; refine halt ?_))
theorem bh_rg {rs : List RowW} (hc : ∀ r ∈ rs, Cn r.1.1 r.1.2 ∧ r.2.ok) (j : Nat) : ∀ (wo : Wo) (h : Int × Int), wo.ok → Bh (lkR rs) j wo h → 0 ≤ h.1 ∧ h.1 < 3 ∧ 0 ≤ h.2 ∧ h.2 < 8 := by
  induction j with
  | zero => exact fun _ _ _ x => x.elim
  | succ j ih =>
    intro wo h ho x
    obtain ⟨gs, g, e, hg, p, w, hl, x⟩ := x
    subst e
    have hw : w.ok := (hc _ (lkR_mem hl)).2
    have hg8 := ho.2 g hg
    rcases x with ⟨k, rfl, rfl⟩ | x
    · exact ⟨hw.1, hw.2, hg8.1, hg8.2⟩
    · exact ih w h hw x
theorem vias_ok {wo : Wo} (h : wo.ok) : (viasOf wo).length ≤ 2 ∧ ∀ g ∈ viasOf wo, 0 ≤ g ∧ g < 8 := by
  cases wo with
  | via gs => exact h
  | direct _ => exact ⟨by simp [viasOf], fun _ h => (nomatch h)⟩
  | sink => exact ⟨by simp [viasOf], fun _ h => (nomatch h)⟩
theorem own_off3 {a1 a2 a3 : Addr} {o1 o2 o3 b1 b2 b3 : Obj} {own A X Z F : List (Addr × Obj)} (h : OwnOff own (((a1, o1) :: (a2, o2) :: (a3, o3) :: (A ++ X)).map (·.1))) (ap : Apart F Z) (hF : ∀ p ∈ own, p ∈ F) : OwnOff own (((a1, b1) :: (a2, b2) :: (a3, b3) :: (A ++ Z)).map (·.1)) := fun p hp b hb => by
  refine cps fun Pz kz => ?_
  obtain ⟨q, hq, rfl⟩ := List.mem_map.mp hb
  refine kz ?_
  clear kz Pz hb
  revert q
  refine fa ?_ (fa ?_ (fa ?_ (fapp (fun q hq => ?_) fun q hq => ?_)))
  · exact h p hp a1 (.head _)
  · exact h p hp a2 (.tail _ (.head _))
  · exact h p hp a3 (.tail _ (.tail _ (.head _)))
  · exact h p hp q.1 (List.mem_map.mpr ⟨q, .tail _ (.tail _ (.tail _ (List.mem_append_left _ hq))), rfl⟩)
  · exact fun e => ap q hq p (hF p hp) e.symm
theorem mem3 {p1 p2 p3 : Addr × Obj} {A B Z : List (Addr × Obj)} : ∀ q ∈ p1 :: p2 :: p3 :: (A ++ Z), q ∈ p1 :: p2 :: p3 :: ((A ++ B) ++ Z) := fun q hq => by
  revert q; (repeat' (first | refine fa ?_ ?_ | refine fapp ?_ ?_)); all_goals first | k_mem | (intro q hq; k_mem)
theorem mem3o {p1 p2 p3 : Addr × Obj} {A B Z : List (Addr × Obj)} : ∀ q ∈ B, q ∈ p1 :: p2 :: p3 :: ((A ++ B) ++ Z) := fun q hq => by
  simp only [List.mem_cons, List.mem_append]
  grind
theorem apart3 {p1 p1' p2 p3 : Addr × Obj} {A B Z : List (Addr × Obj)} (h : Apart (p1 :: p2 :: p3 :: (A ++ B)) Z) (e : p1.1 = p1'.1) : Apart (p1' :: p2 :: p3 :: A) Z := fun q hq p hp => by
  revert p
  refine fa ?_ (fa ?_ (fa ?_ fun p hp => ?_))
  · rw [← e]; exact h q hq _ (.head _)
  · exact h q hq _ (.tail _ (.head _))
  · exact h q hq _ (.tail _ (.tail _ (.head _)))
  · exact h q hq p (.tail _ (.tail _ (.tail _ (List.mem_append_left _ hp))))
theorem end_pair {h₀ h' : Heap} {L l t a1 a2 a3 : Addr} {o1 o2 o3 : Obj} {m : Str → Option Value} {s : Shared} {own X : List (Addr × Obj)} {tk' : Nat} {x y : Int} {tx ty : Tok} {n k : Nat} {P : List (Int × Int) → Prop} (F : Fr h₀ L h' m) (N : News h₀ L h' ((l, listOf #[.ref t] k) :: (t, tupO [.int x tx, .int y ty] n) :: (a1, o1) :: (a2, o2) :: (a3, o3) :: (own ++ X)))
    (lt1 : @LT.lt Nat _ a1 t ∧ @LT.lt Nat _ a2 t ∧ @LT.lt Nat _ a3 t ∧ AllLt t (own ++ X)) (lt2 : @LT.lt Nat _ t l ∧ @LT.lt Nat _ a1 l ∧ @LT.lt Nat _ a2 l ∧ @LT.lt Nat _ a3 l ∧ AllLt l (own ++ X)) (ap : Apart ((a1, o1) :: (a2, o2) :: (a3, o3) :: own) X) (hP : P [(x, y)]) :
    EndList h₀ L m s ((a1, o1) :: (a2, o2) :: (a3, o3) :: own) X P (.ref l) { s with heap := h', toks := tk' } := by
  refine ⟨l, [.ref t], k, h', tk', (l, listOf #[.ref t] k) :: (t, tupO [.int x tx, .int y ty] n) :: X, [(x, y)], rfl, rfl, F, fun q hq => N q ?_, fun _ h => .tail _ (.tail _ h), (ap.fresh fun p hp => ?_).fresh fun p hp => ?_, .head _, .one (.tuple (.tail _ (.head _)) (.cons (.int _ _) (.cons (.int _ _) .nil))), hP⟩
  · revert q; (repeat' (first | refine fa ?_ ?_ | refine fapp ?_ ?_)); all_goals first | k_mem | (intro q hq; k_mem)
  · revert p
    refine fa ?_ (fa ?_ (fa ?_ fun p hp => ?_))
    · exact lt1.1
    · exact lt1.2.1
    · exact lt1.2.2.1
    · exact allLt_to lt1.2.2.2 p (List.mem_append_left _ hp)
  · revert p
    refine fa ?_ (fa ?_ (fa ?_ fun p hp => ?_))
    · exact lt2.2.1
    · exact lt2.2.2.1
    · exact lt2.2.2.2.1
    · exact allLt_to lt2.2.2.2.2 p (List.mem_append_left _ hp)
local macro_rules | `(tactic| walk_at "subscriptTail Name UnaryOp ref int") => `(tactic| (k_here; refine halt ?_))
local macro_rules | `(tactic| walk_at "eval Name") => `(tactic| (k_here; k_dflt (refine' nameX_L ?F ?v ?_ ?a ?b; (case F => k_asm); (case a => rfl); (case b => rfl); (case v => first | rfl | assumption); k_whole)))
local macro_rules | `(tactic| walk_at "subscriptTail Name Constant ref int") => `(tactic| (k_here; (with_reducible show wpAny _ _ (subscriptTail _ _ (Value.ref _) (Value.int _ _)) _ _ _); walk_at "tuple item"))
local macro_rules | `(tactic| walk_at "subscriptTail Subscript") => `(tactic| (k_here; (with_reducible show wpAny _ _ (subscriptTail _ _ (Value.ref _) (Value.int _ _)) _ _ _); walk_at "tuple item"))
local macro_rules | `(tactic| walk_at "eval Name") => `(tactic| (k_here; k_dflt (refine' nameX_L ?F ?v ?_ ?a ?b; (case F => k_asm); (case a => rfl); (case b => rfl); (case v => first | rfl | assumption); k_whole)))
local macro_rules | `(tactic| walk_at "isTrue BoolOp") => `(tactic| (k_here; walk_at "own fold"))
local macro_rules | `(tactic| walk_at "eval Call") => `(tactic| (k_here; walk_at "own fold"))
local macro_rules | `(tactic| walk_at "isTrue Compare") => `(tactic| (k_here; walk_at "own fold"))
theorem bh_vias {lk : Int → Hit} {i : Nat} {wo : Wo} {h : Int × Int} : (∃ g ∈ viasOf wo, ∃ p' w', lk g = some (p', w') ∧ ((∃ k, w' = .direct k ∧ h = (k, g)) ∨ Bh lk i w' h)) ↔ Bh lk (i + 1) wo h := by
  constructor
  · rintro J9_0
    refine cps fun Pz kz => ?_
    obtain ⟨g, hg, p', w', e, x⟩ := J9_0
    refine kz ?_
    clear kz Pz
    cases wo with
    | via gs => exact ⟨gs, g, rfl, hg, p', w', e, x⟩
    | direct _ => cases hg
    | sink => cases hg
  · rintro J9_0
    refine cps fun Pz kz => ?_
    obtain ⟨gs, g, rfl, hg, p, w, e, x⟩ := J9_0
    refine kz ?_
    clear kz Pz
    exact ⟨g, hg, p, w, e, x⟩
theorem tabLook_old {xs ys : List Row} {k : Int × Int} {v : Value} (h : tabLook xs k = some v) : tabLook (xs ++ ys) k = some v := by
  unfold tabLook at h ⊢
  obtain ⟨x, hx, e⟩ := Option.map_eq_some_iff.mp h
  rw [List.find?_append, hx]
  exact congrArg some e
theorem tabLook_last {xs : List Row} {k : Int × Int} {a : Addr} {v : Value} (h : k ∉ xs.map (·.1)) : tabLook (xs ++ [(k, a, v)]) k = some v := by
  have hn : xs.find? (fun x => decide (x.1 = k)) = none := by
    rw [List.find?_eq_none]
    intro x hx e
    exact h (List.mem_map.mpr ⟨x, hx, of_decide_eq_true e⟩)
  unfold tabLook
  rw [List.find?_append, hn]
  simp
theorem not_tup_tab {prog : Program} {w : World} {xs : List Row} {ep : Nat} : ¬ IsTup (tabD prog w xs ep) := fun ⟨a, b, e⟩ => absurd (Value.type.inj (congrArg Obj.cls e)) (by decide)
theorem not_tup_lst {ys : List Value} : ¬ IsTup (lst ys) := fun ⟨a, b, e⟩ => absurd (Value.type.inj (congrArg Obj.cls e)) (by decide)
theorem own_off2 {a1 a2 : Addr} {o1 o2 b1 b2 : Obj} {own A X Z F : List (Addr × Obj)} (h : OwnOff own (((a1, o1) :: (a2, o2) :: (A ++ X)).map (·.1))) (ap : Apart F Z) (hF : ∀ p ∈ own, p ∈ F) : OwnOff own (((a1, b1) :: (a2, b2) :: (A ++ Z)).map (·.1)) := fun p hp b hb => by
  refine cps fun Pz kz => ?_
  obtain ⟨q, hq, rfl⟩ := List.mem_map.mp hb
  refine kz ?_
  clear kz Pz hb
  revert q
  refine fa ?_ (fa ?_ (fapp (fun q hq => ?_) fun q hq => ?_))
  · exact h p hp a1 (.head _)
  · exact h p hp a2 (.tail _ (.head _))
  · exact h p hp q.1 (List.mem_map.mpr ⟨q, .tail _ (.tail _ (List.mem_append_left _ hq)), rfl⟩)
  · exact fun e => ap q hq p (hF p hp) e.symm
theorem mem2 {p1 p2 : Addr × Obj} {A B Z : List (Addr × Obj)} : ∀ q ∈ p1 :: p2 :: (A ++ Z), q ∈ p1 :: p2 :: ((A ++ B) ++ Z) := fun q hq => by
  revert q; (repeat' (first | refine fa ?_ ?_ | refine fapp ?_ ?_)); all_goals first | k_mem | (intro q hq; k_mem)
theorem mem2o {p1 p2 : Addr × Obj} {A B Z : List (Addr × Obj)} : ∀ q ∈ B, q ∈ p1 :: p2 :: ((A ++ B) ++ Z) := fun q hq => by
  simp only [List.mem_cons, List.mem_append]
  grind
theorem Apart.sub {F G X : List (Addr × Obj)} (h : Apart F X) (hs : ∀ p ∈ G, ∃ o, (p.1, o) ∈ F) : Apart G X := fun q hq p hp => by
  obtain ⟨o, ho⟩ := hs p hp
  exact h q hq (p.1, o) ho
theorem wo_inv3 {news : List (Addr × Obj)} {v : Value} {wo : Wo} (h : DatIn news v wo.dat) : ∃ a k, v = .ref a ∧ ((∃ d t t2, wo = .direct d ∧ (a, tupO [.str (Str.ofString "direct") t, .int d t2] k) ∈ news) ∨ (∃ t v2, (∀ d, wo ≠ .direct d) ∧ (a, tupO [.str (Str.ofString "via") t, v2] k) ∈ news) ∨ ∃ t, (∀ d, wo ≠ .direct d) ∧ (a, tupO [.str (Str.ofString "sink") t] k) ∈ news) := by
  obtain ⟨a, k, e, h⟩ := wo_inv h
  cases wo with
  | direct d => obtain ⟨t, t2, h⟩ := h; exact ⟨a, k, e, .inl ⟨d, t, t2, rfl, h⟩⟩
  | via gs => obtain ⟨t, v2, h, _⟩ := h; exact ⟨a, k, e, .inr (.inl ⟨t, v2, fun _ e => (nomatch e), h⟩)⟩
  | sink => obtain ⟨t, h⟩ := h; exact ⟨a, k, e, .inr (.inr ⟨t, fun _ e => (nomatch e), h⟩)⟩
theorem behind_con (w : World) (d : Addr) (xs : List Row) (ep : Nat) (rs : List RowW) (news : List (Addr × Obj)) (T₁ : Tab PySem.Challenge.rw_rh0204_01.row.prog w news d xs ep) (hrows : Paired (RowOk news) xs rs) (hz : rs.length ≤ 5) (hc : ∀ r ∈ rs, Cn r.1.1 r.1.2 ∧ r.2.ok) :
    Con w 175 [.ref d] 20 500 news fun r news' => (∀ q ∈ news, q ∈ news') ∧ ∃ (FD : Addr) (fl : List Value) (fe : Nat), r = .ref FD ∧ (FD, listOf fl.toArray fe) ∈ news' ∧ fl.length = rs.length + 1 ∧ ∀ j, j ≤ rs.length → ∃ dj, fl[j]? = some (.ref dj) ∧ TabAt PySem.Challenge.rw_rh0204_01.row.prog w rs (lkR rs) news' j dj := by
  unfold Con
  k_fill
  intro p loose mean mg mb dp un gd cn cs a ccd cl outer A₀ base h₀ L m s R B F X N T hk hdp hu hret
  have hrs := rows_keys hrows
  have hlx : rs.length = xs.length := by have := congrArg List.length hrs; simpa using this
  k_dflt ktr_enter
  k_steps
  unfold Halt
  with_reducible rename News _ _ _ _ => N1
  with_reducible rename Fr _ _ _ _ => F1
  rename_i g1 L1 h1 FG1 B1 X1 T2 _ _
  refine AtSrc.intro (σ := List (Addr × Obj)) id (fun i ys X => (∀ q ∈ news, q ∈ X) ∧ ∃ ps : List KV, PairsIn X ys ps ∧ ps.map (·.1) = (xs.map (·.1)).take i ∧ ∀ kv ∈ ps, ∃ l c, kv.2 = .ref l ∧ (l, listOf ([] : List Value).toArray c) ∈ X) news (by assumption) (by assumption) (fun _ h => h) (srcDict rfl T₁.lo (by assumption) T₁.mem (by simp; omega)) (fun i ys X hj => hj.1 _ T₁.mem) ⟨fun _ h => h, [], .nil, rfl, (fun _ h => nomatch h)⟩ ?_ ?_
  · rintro i v ys X I oI C oC D m₂ h tk E' hi J9_14 J9_15 hC hx hI F2 N2 off ne
    refine cps fun Pz kz => ?_
    obtain ⟨e, he, rfl⟩ := J9_14
    obtain ⟨sX, ps, pp, pk, pl⟩ := J9_15
    have hi' : i < xs.length := by simpa using hi
    have he' : e = entP PySem.Challenge.rw_rh0204_01.row.prog w xs[i] := by simp [hi'] at he; exact he.symm
    subst he'
    have hkey := T₁.keys _ (List.getElem_mem hi')
    obtain ⟨ka, kn, t1, t2, ek, hkm⟩ := pd_inv hkey
    refine kz ?_
    clear kz Pz
    have hki : (entP PySem.Challenge.rw_rh0204_01.row.prog w xs[i]).key = .ref ka := ek
    rw [hki] at hx
    rw [ek] at hkey
    have hmX := sX _ hkm
    have htk : (xs.map (·.1)).take (i + 1) = (xs.map (·.1)).take i ++ [xs[i].1] := by rw [List.take_succ_eq_append_getElem (by rw [List.length_map]; exact hi'), List.getElem_map]
    unfold testsC
    refine wpAny_tests_nil ?_
    rw [if_pos rfl]
    dsimp only [id] at N2 off
    k_steps
    unfold Halt
    refine comp_end2 (by assumption) (by assumption) ⟨by omega, by omega, by omega⟩ ⟨by omega, by omega, by omega⟩ off ⟨_, rfl, fun q hq => .tail _ (.tail _ (sX q hq)), ps ++ [(xs[i].1, _)], (pp.mono fun q hq => .tail _ (.tail _ hq)).snoc (.head _) (hkey.mono fun q hq => .tail _ (.tail _ (sX q hq))), by rw [htk, List.map_append, pk]; rfl, fun kv hkv => ?_⟩
    revert kv
    refine fapp (fun kv hkv => ?_) fun kv hkv => ?_
    · refine cps fun Pz kz => ?_
      obtain ⟨l, c, e1, e2⟩ := pl kv hkv
      refine kz ?_
      clear kz Pz
      exact ⟨l, c, e1, .tail _ (.tail _ e2)⟩
    · rw [List.mem_singleton.mp hkv]
      exact ⟨_, _, rfl, .tail _ (.head _)⟩
  · rintro ys X J9_2 D h tk F2 N2 off
    refine cps fun Pz kz => ?_
    obtain ⟨sX, ps, pp, pk, pl⟩ := J9_2
    refine kz ?_
    clear kz Pz
    dsimp only [id] at N2 off
    rw [show (List.map (entP PySem.Challenge.rw_rh0204_01.row.prog w) xs).toArray.size = (xs.map (·.1)).length by simp, List.take_length] at pk
    have hpl : ps.length ≤ 5 := by have := congrArg List.length pk; rw [List.length_map, List.length_map] at this; omega
    k_steps
    unfold Halt
    refine dict_pairs rfl (by ktr_units) (by assumption) (by assumption) (modules_low T2.nolimit) (.head _) (pp.mono fun q hq => .tail _ hq) (by omega) fun D0 h0 tk0 xs0 ep0 F3 N3 lo0 lt0 k0 nd0 e0 => ?_
    k_steps
    unfold Halt
    with_reducible rename News _ _ _ _ => N4
    with_reducible rename Fr _ _ _ _ => F4

    rename_i FD h5 l5 h6
    have hz0 : TabAt PySem.Challenge.rw_rh0204_01.row.prog w rs (lkR rs) ((D0, tabD PySem.Challenge.rw_rh0204_01.row.prog w xs0 ep0) :: (D, lst ys) :: X) 0 D0 := tab_zero ⟨lo0, .head _, fun x hx => (k0 x hx).mono fun q hq => .tail _ hq, nd0⟩ e0 (pk.trans hrs.symm) (by rw [hrs]; exact T₁.nodup) fun kv hkv => by
      obtain ⟨l, c, e1, e2⟩ := pl kv hkv
      exact ⟨l, c, e1, .tail _ (.tail _ e2)⟩
    refine cps fun Pz kz => ?_
    refine ap (A := ∀ M, (Fr g1 L1 _ M) → (M (Str.ofString "rows") = some (.ref d)) → (M (Str.ofString "found") = some (.ref FD)) → Pz) ?_ (fun H => H _ F4 rfl rfl)
    intro M0 F4 hM1 hM2
    refine kz ?_
    clear kz Pz
    refine for_dict (σ := B1S) (fun _ => []) [Str.ofString "later", Str.ofString "prefix", Str.ofString "ends", Str.ofString "goal", Str.ofString "match"] (fun e => (FD, listOf e.fl.toArray e.fe) :: e.X)
      (fun i e => (∀ q ∈ news, q ∈ e.X) ∧ Apart [(FD, listOf e.fl.toArray e.fe)] e.X ∧ e.fl.length = i + 1 ∧ ∀ j, j ≤ i → ∃ dj, e.fl[j]? = some (.ref dj) ∧ TabAt PySem.Challenge.rw_rh0204_01.row.prog w rs (lkR rs) e.X j dj)
      ⟨[.ref D0], _, (D0, tabD PySem.Challenge.rw_rh0204_01.row.prog w xs0 ep0) :: (D, lst ys) :: X⟩ rfl T₁.lo (fun _ _ hj => .tail _ (hj.1 _ T₁.mem)) (by assumption) (by assumption) (fun _ h => h) (fun _ h => nomatch h) ⟨fun q hq => .tail _ (.tail _ (sX q hq)), ?_, rfl, fun j hj => ⟨D0, by rw [Nat.le_zero.mp hj]; rfl, by rw [Nat.le_zero.mp hj]; exact hz0⟩⟩ ⟨?_, ?_⟩
    · intro q hq p hp
      rw [List.mem_singleton.mp hp]
      revert q
      refine fa ?_ (fa ?_ fun q hq => ?_)
      · exact Nat.ne_of_lt l5.1
      · exact Nat.ne_of_lt l5.2.1
      · exact Nat.ne_of_lt (allLt_to l5.2.2 q hq)
    · clear e0 k0 nd0 lt0 pp pl pk N4 F4 hz0 l5
      rintro i v J9_2 u h tk own hi J9_8 J0 hown hoc F5 N5
      refine cps fun Pz kz => ?_
      obtain ⟨fl, fe, X⟩ := J9_2
      obtain ⟨en, hen, rfl⟩ := J9_8
      refine an4 J0 fun j1 j2 j3 j4 => ?_
      clear J0
      refine kz ?_
      clear kz Pz
      dsimp only at j1 j2 j3 j4 hown N5 ⊢
      have hfl : fl.length ≤ 1000 := by
        have : i < xs.length := by simpa using hi
        omega
      k_steps
      unfold Halt
      with_reducible rename News _ _ _ _ => N6
      with_reducible rename Fr _ _ _ _ => F6
      rename_i LD h7 od F7o N7o l7 lod ids1 ids2 ids3 ids4 h8
      refine cps fun Pz kz => ?_
      obtain ⟨epL, rfl⟩ := dict_empty ids1
      clear ids1 ids2 ids3 ids4 N7o F7o
      have hnd : (rs.map (·.1)).Nodup := by rw [hrs]; exact T₁.nodup
      refine ap (A := ∀ M, (Fr g1 L1 _ M) → ((∀ z, z ≠ Str.ofString "turn" → z ≠ Str.ofString "later" → z ≠ Str.ofString "prefix" → z ≠ Str.ofString "ends" → z ≠ Str.ofString "goal" → z ≠ Str.ofString "match" → M z = M0 z)) → (M (Str.ofString "rows") = some (.ref d)) → (M (Str.ofString "found") = some (.ref FD)) → (M (Str.ofString "later") = some (.ref LD)) → Pz) ?_ (fun H => H _ F6 (fun z a1 a2 a3 a4 a5 a6 => by simp [kstB, a1, a2, a3, a4, a5, a6]) hM1 hM2 rfl)
      intro M1 F6 hMt hM3 hM4 hM5
      refine kz ?_
      clear kz Pz
      refine for_dict (σ := B2S) (fun _ => []) [Str.ofString "ends", Str.ofString "goal", Str.ofString "match"] (fun e => (LD, tabD PySem.Challenge.rw_rh0204_01.row.prog w e.xs e.ep) :: (FD, listOf fl.toArray fe) :: (own ++ e.X))
        (fun i2 e => (∀ q ∈ X, q ∈ e.X) ∧ Apart ((LD, dctO #[] 0) :: (FD, listOf fl.toArray fe) :: own) e.X ∧ (∀ x ∈ e.xs, DatIn e.X (.ref x.2.1) (pd x.1)) ∧ e.xs.map (·.1) = (rs.map (·.1)).take i2 ∧ ∀ r ∈ rs.take i2, ∃ l vs c ps, tabLook e.xs r.1 = some (.ref l) ∧ (l, listOf vs.toArray c) ∈ e.X ∧ DatAll e.X vs (ps.map pd) ∧ Asc ps ∧ ∀ h, h ∈ ps ↔ Bh (lkR rs) (i + 1) r.2 h)
        ⟨[], epL, X⟩ rfl T₁.lo (fun _ _ hj => .tail _ (.tail _ (List.mem_append_right _ (hj.1 _ (j1 _ T₁.mem))))) (by assumption) (by assumption) ?_ (fun _ h => nomatch h) ⟨fun q hq => hq, ?_, (fun _ h => nomatch h), rfl, (fun _ h => nomatch h)⟩ ⟨?_, ?_⟩
      · refine fa ?_ (fa ?_ (fapp (fun q hq => ?_) fun q hq => ?_))
        · exact .head _
        · exact .tail _ (.head _)
        · exact .tail _ (List.mem_append_right _ hq)
        · exact .tail _ (List.mem_append_left _ (.tail _ hq))
      · intro q hq
        refine fa ?_ (fa ?_ fun p hp => ?_)
        · exact Nat.ne_of_lt (l7 q (List.mem_append_left _ (.tail _ hq)))
        · exact j2 q hq _ (.head _)
        · exact fun e => hown p hp q.1 (List.mem_map.mpr ⟨q, .tail _ hq, rfl⟩) e.symm
      · rintro i2 v2 J9_2 u2 h tk own2 hi2 J9_8 J1 hown2 hoc2 F9 N9
        refine cps fun Pz kz => ?_
        obtain ⟨xs2, ep2, X2⟩ := J9_2
        obtain ⟨en2, hen2, rfl⟩ := J9_8
        refine an5 J1 fun m1 m2 m3 m4 m5 => ?_
        clear J1
        refine kz ?_
        clear kz Pz
        dsimp only at m1 m2 m3 m4 m5 hown2 N9 ⊢
        have hi2' : i2 < xs.length := by simpa using hi2
        have he2 : en2 = entP PySem.Challenge.rw_rh0204_01.row.prog w xs[i2] := by simp [hi2'] at hen2; exact hen2.symm
        refine cps fun Pz kz => ?_
        subst he2
        have hkey := T₁.keys _ (List.getElem_mem hi2')
        obtain ⟨ka, kn, t1, t2, ek, hkm⟩ := pd_inv hkey
        have hki : (entP PySem.Challenge.rw_rh0204_01.row.prog w xs[i2]).key = .ref ka := ek
        rw [hki] at F9
        rw [ek] at hkey
        have hi3 : i2 < rs.length := by omega
        have hr1 : xs[i2].1 = rs[i2].1 := by
          have := congrArg (fun l => l[i2]?) hrs
          simp only [List.getElem?_map, List.getElem?_eq_getElem hi3, List.getElem?_eq_getElem hi2', Option.map_some] at this
          exact (Option.some.inj this).symm
        rw [hr1] at hkey
        have hrm : rs[i2] ∈ rs := List.getElem_mem hi3
        obtain ⟨xv, hxv, dxv⟩ := rows_look hrows T₁.nodup hrm
        refine kz ?_
        clear kz Pz
        have hrok := hc _ hrm
        have htk1 : (rs.map (·.1)).take (i2 + 1) = (rs.map (·.1)).take i2 ++ [rs[i2].1] := by rw [List.take_succ_eq_append_getElem (by rw [List.length_map]; exact hi3), List.getElem_map]
        have htk2 : rs.take (i2 + 1) = rs.take i2 ++ [rs[i2]] := List.take_succ_eq_append_getElem hi3
        have hnew : rs[i2].1 ∉ xs2.map (·.1) := by
          rw [m4]
          intro hh
          have := (List.nodup_append.mp (htk1 ▸ (hnd.take (i := i2 + 1)))).2.2 _ hh _ (.head _)
          exact this rfl
        generalize rs[i2] = rr at *
        obtain ⟨k0, wo⟩ := rr
        dsimp only at hkey hxv dxv hrok hnew
        k_steps
        unfold Halt
        with_reducible rename News _ _ _ _ => N10
        with_reducible rename Fr _ _ _ _ => F10
        rename_i ED hE FE NE lE hE2
        have hEL : @Ne Nat LD ED := Nat.ne_of_lt (lE (LD, _) (.head _))
        have hEF : @Ne Nat FD ED := Nat.ne_of_lt (lE (FD, _) (.tail _ (.head _)))
        have hEo : ∀ p ∈ own ++ own2, @Ne Nat p.1 ED := fun p hp => Nat.ne_of_lt (lE p (by
          rcases List.mem_append.mp hp with hp | hp <;> k_mem))
        have ap3 : Apart ((ED, listOf #[] 0) :: (LD, tabD PySem.Challenge.rw_rh0204_01.row.prog w xs2 ep2) :: (FD, listOf fl.toArray fe) :: (own ++ own2)) X2 := by
          intro q hq
          refine fa ?_ (fa ?_ (fa ?_ (fapp (fun p hp => ?_) fun p hp => ?_)))
          · exact Nat.ne_of_lt (lE q (by k_mem))
          · exact m2 q hq (LD, dctO #[] 0) (.head _)
          · exact m2 q hq _ (.tail _ (.head _))
          · exact m2 q hq p (.tail _ (.tail _ hp))
          · exact fun e => hown2 p hp q.1 (List.mem_map.mpr ⟨q, .tail _ (.tail _ (List.mem_append_right _ hq)), rfl⟩) e.symm
        have N11 : News _ _ _ ((ED, listOf #[] 0) :: (LD, tabD PySem.Challenge.rw_rh0204_01.row.prog w xs2 ep2) :: (FD, listOf fl.toArray fe) :: ((own ++ own2) ++ X2)) := fun q hq => N10 q (by
          revert q; (repeat' (first | refine fa ?_ ?_ | refine fapp ?_ ?_)); all_goals first | k_mem | (intro q hq; k_mem))
        have nX : ∀ q ∈ news, q ∈ X2 := fun q hq => m1 q (j1 q hq)
        refine to_tup (F3 := (ED, listOf #[] 0) :: (LD, tabD PySem.Challenge.rw_rh0204_01.row.prog w xs2 ep2) :: (FD, listOf fl.toArray fe) :: (own ++ own2)) (X := X2) (viasOf wo) F10 ?_ ?_
        --[A
        · clear N10 FE NE lE
          have T3 := T₁.mono nX
          have hkey3 := hkey.mono nX
          have nL : ∀ q ∈ X2, q ∈ (ED, listOf #[] 0) :: (LD, tabD PySem.Challenge.rw_rh0204_01.row.prog w xs2 ep2) :: (FD, listOf fl.toArray fe) :: ((own ++ own2) ++ X2) := fun q hq => .tail _ (.tail _ (.tail _ (List.mem_append_right _ hq)))
          refine cps fun Pz kz => ?_
          obtain ⟨w2, yk2, rfl, hwm⟩ := wo_inv dxv
          refine kz ?_
          clear kz Pz
          refine PyProof.Rows.IfExp_ ?_
          k_steps
          unfold Halt
          refine tab_tail (by assumption) T3 nL hkey3 nL (by ktr_units) hxv fun tk9 => ?_
          cases wo with
          | via gs =>
            refine cps fun Pz kz => ?_
            obtain ⟨tv, v3, hwm, dgs⟩ := hwm
            have hwX := nX _ hwm
            obtain ⟨w3, vs3, yk3, rfl, hy3, dvs3⟩ := dat_tuple_inv dgs
            refine kz ?_
            clear kz Pz
            k_steps
            unfold Halt
            refine tab_tail (by assumption) T3 nL hkey3 nL (by ktr_units) hxv fun tk9 => ?_
            k_steps
            unfold Halt
            exact ⟨w3, vs3, yk3, _, _, X2, rfl, rfl, by assumption, by assumption, fun _ h => h, ap3, nX _ hy3, dvs3.mono nX⟩
          | direct dd =>
            obtain ⟨tv, t2, hwm⟩ := hwm
            have hwX := nX _ hwm
            k_steps
            unfold Halt
            exact end_nil (by assumption) (by assumption) (by assumption) ap3
          | sink =>
            obtain ⟨tv, hwm⟩ := hwm
            have hwX := nX _ hwm
            k_steps
            unfold Halt
            exact end_nil (by assumption) (by assumption) (by assumption) ap3
        --A]
        · intro t3 vs3 k3 hh tkk X3 F12 N12 sX3 ap4 mt3 dt3
          clear N10 N11 FE NE lE ap3
          have N12 : News _ _ _ ((ED, listOf #[] 0) :: (LD, tabD PySem.Challenge.rw_rh0204_01.row.prog w xs2 ep2) :: (FD, listOf fl.toArray fe) :: ((own ++ own2) ++ X3)) := N12
          k_steps
          unfold Halt
          refine cps fun Pz kz => ?_
          obtain ⟨hv2, hv8⟩ := vias_ok hrok.2
          have hv3 := dt3.length
          rw [List.length_map] at hv3
          refine ap (A := ∀ M, (Fr g1 L1 _ M) → ((∀ z, z ≠ Str.ofString "prefix" → z ≠ Str.ofString "ends" → z ≠ Str.ofString "goal" → z ≠ Str.ofString "match" → M z = M1 z)) → (M (Str.ofString "rows") = some (.ref d)) → (M (Str.ofString "found") = some (.ref FD)) → (M (Str.ofString "later") = some (.ref LD)) → (M (Str.ofString "ends") = some (.ref ED)) → (M (Str.ofString "prefix") = some (.ref ka)) → Pz) ?_ (fun H => H _ F12 (fun z a1 a2 a3 a4 => by simp [kstB, a1, a2, a3, a4]) hM3 hM4 hM5 rfl rfl)
          intro M2 F12 hMs hM6 hM7 hM8 hM9 hM10
          refine kz ?_
          clear kz Pz
          refine for_tuple (σ := B3S) (fun _ => []) [Str.ofString "match"] (fun e => (ED, listOf e.ev.toArray e.ee) :: (LD, tabD PySem.Challenge.rw_rh0204_01.row.prog w xs2 ep2) :: (FD, listOf fl.toArray fe) :: ((own ++ own2) ++ e.X))
            (fun i3 e => (∀ q ∈ X3, q ∈ e.X) ∧ Apart ((ED, listOf #[] 0) :: (LD, tabD PySem.Challenge.rw_rh0204_01.row.prog w xs2 ep2) :: (FD, listOf fl.toArray fe) :: (own ++ own2)) e.X ∧ DatAll e.X e.ev (e.es.map pd) ∧ (∀ h, h ∈ e.es ↔ ∃ g ∈ (viasOf wo).take i3, ∃ p' w', lkR rs g = some (p', w') ∧ ((∃ k, w' = .direct k ∧ h = (k, g)) ∨ Bh (lkR rs) i w' h)) ∧ e.es.length ≤ 24 * i3)
            ⟨[], 0, [], X3⟩ rfl (fun _ _ hj => .tail _ (.tail _ (.tail _ (List.mem_append_right _ (hj.1 _ mt3))))) (by assumption) (by assumption) (fun _ h => h) (fun _ h => nomatch h) ⟨fun _ h => h, ap4, .nil, by simp, by simp⟩ ⟨?_, ?_⟩
          --[B
          · rintro i3 gv J9_2 u3 h tk own3 hi4 hgv J2 hown3 hoc3 F13 N13
            refine cps fun Pz kz => ?_
            obtain ⟨ev, ee, es, X4⟩ := J9_2
            refine an5 J2 fun p1 p2 p3 p4 p5 => ?_
            clear J2
            refine kz ?_
            clear kz Pz
            dsimp only at p1 p2 p3 p4 p5 hown3 N13 ⊢
            have hi5 : i3 < (viasOf wo).length := by omega
            refine cps fun Pz kz => ?_
            obtain ⟨v', ev', dv⟩ := dt3.get (k := i3) (by rw [List.length_map]; exact hi5)
            obtain rfl : v' = gv := Option.some.inj (ev'.symm.trans hgv)
            rw [List.getElem_map] at dv
            obtain ⟨tg, rfl⟩ := int_inv dv
            obtain ⟨gg0, gg8⟩ := hv8 _ (List.getElem_mem hi5)
            refine kz ?_
            clear kz Pz
            have htk3 : (viasOf wo).take (i3 + 1) = (viasOf wo).take i3 ++ [(viasOf wo)[i3]] := List.take_succ_eq_append_getElem hi5
            generalize (viasOf wo)[i3] = g at *
            have ap5 : Apart ((ED, listOf ev.toArray ee) :: (LD, tabD PySem.Challenge.rw_rh0204_01.row.prog w xs2 ep2) :: (FD, listOf fl.toArray fe) :: (own ++ own2 ++ own3)) X4 := by
              intro q hq
              refine fa ?_ (fa ?_ (fa ?_ (fapp (fun p hp => ?_) fun p hp => ?_)))
              · exact p2 q hq (ED, listOf #[] 0) (.head _)
              · exact p2 q hq _ (.tail _ (.head _))
              · exact p2 q hq _ (.tail _ (.tail _ (.head _)))
              · exact p2 q hq p (.tail _ (.tail _ (.tail _ hp)))
              · exact fun e => hown3 p hp q.1 (List.mem_map.mpr ⟨q, .tail _ (.tail _ (.tail _ (List.mem_append_right _ hq))), rfl⟩) e.symm
            have N14 : News _ _ _ ((ED, listOf ev.toArray ee) :: (LD, tabD PySem.Challenge.rw_rh0204_01.row.prog w xs2 ep2) :: (FD, listOf fl.toArray fe) :: ((own ++ own2 ++ own3) ++ X4)) := fun q hq => N13 q (by
              revert q; (repeat' (first | refine fa ?_ ?_ | refine fapp ?_ ?_)); all_goals first | k_mem | (intro q hq; k_mem))
            have nX4 : ∀ q ∈ news, q ∈ X4 := fun q hq => p1 q (sX3 q (nX q hq))
            have T5 := T₁.mono nX4
            have M := match_con w d xs ep rs g tg _ (T₁.mono (n₂ := (ED, listOf ev.toArray ee) :: (LD, tabD PySem.Challenge.rw_rh0204_01.row.prog w xs2 ep2) :: (FD, listOf fl.toArray fe) :: ((own ++ own2 ++ own3) ++ X4)) fun q hq => .tail _ (.tail _ (.tail _ (List.mem_append_right _ (nX4 q hq))))) hrs hz (fun r hr => (hc r hr).1) gg0 gg8
            k_steps
            unfold Halt
            walk_at "own call"
            intro r9 news9 h9 tk9 F9 N9 P9
            refine cps fun Pz kz => ?_
            obtain ⟨ex9, d9⟩ := P9
            obtain ⟨Z, zX, zA, zY, zT, zF⟩ := apart_ext N9 ex9 (X := X4) (fun q hq => .tail _ (.tail _ (.tail _ (List.mem_append_right _ hq)))) (F := (ED, listOf ev.toArray ee) :: (LD, tabD PySem.Challenge.rw_rh0204_01.row.prog w xs2 ep2) :: (FD, listOf fl.toArray fe) :: (own ++ own2 ++ own3)) (fun p hp => by
              revert p
              refine fa ?_ (fa ?_ (fa ?_ fun p hp => ?_))
              · exact ⟨.head _, by intro e; exact absurd (Value.type.inj e) (by decide)⟩
              · exact ⟨.tail _ (.head _), by intro e; exact absurd (Value.type.inj e) (by decide)⟩
              · exact ⟨.tail _ (.tail _ (.head _)), by intro e; exact absurd (Value.type.inj e) (by decide)⟩
              · refine ⟨.tail _ (.tail _ (.tail _ (List.mem_append_left _ hp))), ?_⟩
                rcases List.mem_append.mp hp with hp | hp
                · rcases List.mem_append.mp hp with hp | hp
                  · exact hoc p hp
                  · exact hoc2 p hp
                · exact hoc3 p hp) ap5
            refine kz ?_
            clear kz Pz
            have N15 : News _ _ _ ((ED, listOf ev.toArray ee) :: (LD, tabD PySem.Challenge.rw_rh0204_01.row.prog w xs2 ep2) :: (FD, listOf fl.toArray fe) :: ((own ++ own2 ++ own3) ++ Z)) := fun q hq => N9 q (by
              revert q
              refine fa ?_ (fa ?_ (fa ?_ (fapp (fun q hq => ?_) fun q hq => ?_)))
              · exact zF _ (.head _)
              · exact zF _ (.tail _ (.head _))
              · exact zF _ (.tail _ (.tail _ (.head _)))
              · exact zF _ (.tail _ (.tail _ (.tail _ hq)))
              · exact zY _ hq)
            cases hg : lkR rs g with
            | none =>
              rw [hg] at d9
              subst d9
              clear N9 N14 N13 ex9 zF zY zT M
              k_steps
              refine Aft.intro (B3S.mk ev ee es Z) (by assumption) (by assumption) mem3 mem3o (own_off3 hown3 zA fun p hp => .tail _ (.tail _ (.tail _ (List.mem_append_right _ hp)))) (fun _ h => nomatch h) (by walk_at "names stay") ⟨fun q hq => zX.1 q (p1 q hq), apart3 zA rfl, p3.mono zX.1, fun h => ?_, by dsimp only; omega⟩
              dsimp only
              rw [p4, htk3]
              constructor
              · rintro ⟨g', hg', x⟩; exact ⟨g', List.mem_append_left _ hg', x⟩
              · rintro J9_0
                refine cps fun Pz kz => ?_
                obtain ⟨g', hg', p', w', e, x⟩ := J9_0
                refine kz ?_
                clear kz Pz
                rcases List.mem_append.mp hg' with hg' | hg'
                · exact ⟨g', hg', p', w', e, x⟩
                · rw [List.mem_singleton.mp hg', hg] at e; cases e
            | some pw =>
              refine cps fun Pz kz => ?_
              obtain ⟨p', w'⟩ := pw
              rw [hg] at d9
              have d9 := dat_tup zT d9 (by simp [NoL, NoLs])
              clear N9 N14 N13 ex9 zF zY zT M
              have hm' := lkR_mem hg
              obtain ⟨xv', hxv', dxv'⟩ := rows_look hrows T₁.nodup hm'
              have hw'ok := (hc _ hm').2
              dsimp only at hxv' dxv' hw'ok
              obtain ⟨ma, mk1, i1, i2', rfl, hma⟩ := pd_inv d9
              obtain ⟨dj, hdj, xsj, epj, Tj, hrj⟩ := j4 i (Nat.le_refl _)
              obtain ⟨lj, vsj, cj, psj, hlk', hlj, dlj, aj, hmj⟩ := hrj _ hm'
              refine kz ?_
              clear kz Pz
              have hlast : fl[fl.length - 1]? = some (.ref dj) := by rw [j3]; exact hdj
              have zX4 := zX.1
              have nZ : ∀ q ∈ news, q ∈ Z := fun q hq => zX4 q (nX4 q hq)
              have xZ : ∀ q ∈ X, q ∈ Z := fun q hq => zX4 q (p1 q (sX3 q (m1 q hq)))
              have T6 := T₁.mono nZ
              have T7 := Tj.mono xZ
              have dxv' := (wo_mono (fun q hq _ => nZ q hq) dxv')
              k_steps
              unfold Halt
              with_reducible rename News _ _ _ _ => N16
              with_reducible rename Fr _ _ _ _ => F16
              refine to_list (F3 := (ED, listOf ev.toArray ee) :: (LD, tabD PySem.Challenge.rw_rh0204_01.row.prog w xs2 ep2) :: (FD, listOf fl.toArray fe) :: (own ++ own2 ++ own3)) (X := Z) (fun es' => (∀ h, h ∈ es' ↔ (∃ k, w' = .direct k ∧ h = (k, g)) ∨ Bh (lkR rs) i w' h) ∧ es'.length ≤ 24) F16 ?_ ?_
              --[C
              · have zL : ∀ q ∈ Z, q ∈ (ED, listOf ev.toArray ee) :: (LD, tabD PySem.Challenge.rw_rh0204_01.row.prog w xs2 ep2) :: (FD, listOf fl.toArray fe) :: ((own ++ own2 ++ own3) ++ Z) := fun q hq => .tail _ (.tail _ (.tail _ (List.mem_append_right _ hq)))
                have fin2 : (∀ k, w' ≠ .direct k) → ((∀ h, h ∈ psj ↔ (∃ k, w' = .direct k ∧ h = (k, g)) ∨ Bh (lkR rs) i w' h) ∧ psj.length ≤ 24) := fun hno => ⟨fun h => (hmj h).trans ⟨.inr, fun x => x.elim (fun ⟨k, e, _⟩ => absurd e (hno k)) id⟩, asc_len aj fun p hp => bh_rg hc i _ p hw'ok ((hmj p).mp hp)⟩
                refine PyProof.Rows.IfExp_ ?_
                k_steps
                unfold Halt
                refine tab_tail (by assumption) T6 zL d9 zL (by ktr_units) hxv' fun tk9 => ?_
                apply by_key (H := ∀ k, w' ≠ .direct k)
                case f =>
                  intro key
                  refine cps fun Pz kz => ?_
                  obtain ⟨w2, yk2, ew, hwm⟩ := wo_inv3 dxv'
                  refine kz ?_
                  clear kz Pz
                  rw [ew]
                  rcases hwm with ⟨dd, tv, t2, e, hwm⟩ | ⟨tv, v3, hno, hwm⟩ | ⟨tv, hno, hwm⟩
                  · clear key
                    subst e
                    subst ew
                    k_steps
                    unfold Halt
                    refine tab_tail (by assumption) T6 zL d9 zL (by ktr_units) hxv' fun tk9 => ?_
                    k_steps
                    unfold Halt
                    refine end_pair (by assumption) (by assumption) (by assumption) (by assumption) zA ⟨fun h => ⟨fun hh => .inl ⟨dd, rfl, List.mem_singleton.mp hh⟩, fun x => ?_⟩, by simp⟩
                    rcases x with ⟨k, e, rfl⟩ | x
                    · cases e; exact .head _
                    · cases i with
                      | zero => exact x.elim
                      | succ i => obtain ⟨_, _, e, _⟩ := x; cases e
                  · k_steps
                    unfold Halt
                    exact key hno
                  · k_steps
                    unfold Halt
                    exact key hno
                case k =>
                  intro hno
                  refine last_tail (by assumption) (.tail _ (.tail _ (.head _))) hlast hfl ?_
                  k_steps
                  unfold Halt
                  refine tab_tail (by assumption) T7 zL d9 zL (by ktr_units) hlk' fun tk9 => ?_
                  k_steps
                  unfold Halt
                  exact ⟨lj, vsj, cj, _, _, Z, psj, rfl, rfl, by assumption, by assumption, fun _ h => h, zA, xZ _ hlj, dlj.mono xZ, fin2 hno⟩
              --C]
              · intro l5 vs5 kk5 h5 tk5 X5 es5 F17 N17 sZ ap6 hl5 dl5 hes5
                obtain ⟨he1, he2⟩ := hes5
                have N17 : News _ _ _ ((ED, listOf ev.toArray ee) :: (LD, tabD PySem.Challenge.rw_rh0204_01.row.prog w xs2 ep2) :: (FD, listOf fl.toArray fe) :: ((own ++ own2 ++ own3) ++ X5)) := N17
                have z5 := dl5.length
                have z6 := p3.length
                rw [List.length_map] at z5 z6
                k_steps
                unfold Halt
                refine extend_at' (vs := ev) (ws := vs5) ((LD, tabD PySem.Challenge.rw_rh0204_01.row.prog w xs2 ep2) :: (FD, listOf fl.toArray fe) :: ((own ++ own2 ++ own3) ++ X5)) (by assumption) N17 (.head _) (fun q hq => .tail _ hq) (fun q hq => ?_) (.tail _ (.tail _ (.tail _ (List.mem_append_right _ hl5)))) (.inl rfl) rfl (by omega) fun h6 n6 F6 N6 => ?_
                · revert q
                  refine fa ?_ (fa ?_ (fapp (fapp (fun q hq => ?_) fun q hq => ?_) fun q hq => ?_))
                  · exact hEL
                  · exact hEF
                  · exact hEo q hq
                  · exact hown3 q hq ED (.head _)
                  · exact ap6 q hq _ (.head _)
                k_steps
                refine Aft.intro (B3S.mk (ev ++ vs5) n6 (es ++ es5) X5) (by assumption) (by assumption) mem3 mem3o (own_off3 hown3 ap6 fun p hp => .tail _ (.tail _ (.tail _ (List.mem_append_right _ hp)))) (fun _ h => nomatch h) (by walk_at "names stay") ⟨fun q hq => sZ q (zX4 q (p1 q hq)), apart3 ap6 rfl, by dsimp only; rw [List.map_append]; exact (p3.mono fun q hq => sZ q (zX4 q hq)).append dl5, fun h => ?_, by dsimp only; rw [List.length_append]; omega⟩
                dsimp only
                rw [List.mem_append, p4, he1, htk3]
                constructor
                · rintro (⟨g', hg', x⟩ | x)
                  · exact ⟨g', List.mem_append_left _ hg', x⟩
                  · exact ⟨g, List.mem_append_right _ (.head _), _, _, hg, x⟩
                · rintro J9_0
                  refine cps fun Pz kz => ?_
                  obtain ⟨g', hg', p'', w'', e, x⟩ := J9_0
                  refine kz ?_
                  clear kz Pz
                  rcases List.mem_append.mp hg' with hg' | hg'
                  · exact .inl ⟨g', hg', p'', w'', e, x⟩
                  · rw [List.mem_singleton.mp hg', hg] at e
                    cases e
                    rw [List.mem_singleton.mp hg'] at x
                    exact .inr x
          --B]
          · rintro J9_0 u3 h tk J3 F13 N13
            refine cps fun Pz kz => ?_
            obtain ⟨ev, ee, es, X4⟩ := J9_0
            refine an5 J3 fun p1 p2 p3 p4 p5 => ?_
            clear J3
            refine kz ?_
            clear kz Pz
            dsimp only at p1 p2 p3 p4 p5 F13 N13
            rw [hv3, List.take_length] at p4
            have p4 : ∀ h, h ∈ es ↔ Bh (lkR rs) (i + 1) wo h := fun h => (p4 h).trans bh_vias
            have hrg : ∀ p ∈ es, 0 ≤ p.1 ∧ p.1 < 3 ∧ 0 ≤ p.2 ∧ p.2 < 8 := fun p hp => bh_rg hc _ wo p hrok.2 ((p4 p).mp hp)
            have hez := p3.length
            rw [List.length_map] at hez
            k_steps
            unfold Halt
            refine AtSrc.intro (σ := List (Addr × Obj)) id (fun i ys Y => Ext ((ED, listOf ev.toArray ee) :: (LD, tabD PySem.Challenge.rw_rh0204_01.row.prog w xs2 ep2) :: (FD, listOf fl.toArray fe) :: ((own ++ own2) ++ X4)) Y ∧ PairsIn Y ys ((es.take i).map fun e => (e, Value.bool true))) ((ED, listOf ev.toArray ee) :: (LD, tabD PySem.Challenge.rw_rh0204_01.row.prog w xs2 ep2) :: (FD, listOf fl.toArray fe) :: ((own ++ own2) ++ X4)) (by assumption) (by assumption) (fun _ h => h) (srcList rfl (by assumption) (.head _) (by omega)) (fun i ys Y hj => hj.1.mem (.head _)) ⟨.refl _, by rw [List.take_zero]; exact .nil⟩ ?_ ?_
            · rintro i6 v6 ys Y I oI C oC D m₂ h tk E' hi6 hv6 J9_15 hC hx hI F14 N14 off ne
              refine cps fun Pz kz => ?_
              obtain ⟨ex, pp⟩ := J9_15
              have hi7 : i6 < es.length := by omega
              obtain ⟨v7, e7, dv7⟩ := p3.get (k := i6) (by rw [List.length_map]; exact hi7)
              obtain rfl : v7 = v6 := Option.some.inj (e7.symm.trans hv6)
              rw [List.getElem_map] at dv7
              have htk6 : es.take (i6 + 1) = es.take i6 ++ [es[i6]] := List.take_succ_eq_append_getElem hi7
              obtain ⟨a7, k7, t7, t8, rfl, hm7⟩ := pd_inv dv7
              refine kz ?_
              clear kz Pz
              unfold testsC
              refine wpAny_tests_nil ?_
              rw [if_pos rfl]
              dsimp only [id] at N14 off
              k_steps
              unfold Halt
              refine comp_out (by assumption) (by assumption) (Ext.add (.refl _) rfl) hC hI off fun Z zz1 zz2 zz3 => ⟨Z, rfl, ex.trans zz1, ?_⟩
              rw [htk6, List.map_append]
              exact (pp.mono zz1.1).snoc (zz2 _ (.head _) ⟨_, _, rfl⟩) (dv7.mono fun q hq => zz1.1 q (ex.1 q (.tail _ (.tail _ (.tail _ (List.mem_append_right _ hq))))))
            · rintro ys Y ⟨ex, pp⟩ D h tk F14 N14 off
              dsimp only [id] at N14 off
              rw [hez, List.take_length] at pp
              k_steps
              unfold Halt
              refine dict_pairs rfl (by ktr_units) (by assumption) (by assumption) (modules_low T2.nolimit) (.head _) (pp.mono fun q hq => .tail _ hq) (by rw [List.length_map]; omega) fun D1 h6 tk6 xs1 ep1 F15 N15 lo1 lt1 k1 nd1 e1 => ?_
              have hkeys : ∀ q, q ∈ xs1.map (·.1) ↔ q ∈ es := fun q => by
                have e2 : xs1.map (·.1) = (xs1.map kvR).map (·.1) := by rw [List.map_map]; rfl
                rw [e2, e1, fold_keys]
                simp
              have hx1 : xs1.length ≤ 24 := by
                have := len_sub (xs1.map (·.1)) allHops nd1 fun q hq => by obtain ⟨a1, a2, a3, a4⟩ := hrg q ((hkeys q).mp hq); exact allHops_mem a1 a2 a3 a4
                simpa [allHops] using this
              k_steps
              unfold Halt
              refine sorted_dict lo1 rfl (by assumption) (by assumption) (.head _) (fun x hx => (k1 x hx).mono fun q hq => .tail _ hq) nd1 (fun p hp => ⟨(hrg p ((hkeys p).mp hp)).2.2.1, by have := (hrg p ((hkeys p).mp hp)).2.2.2; omega⟩) (by omega) fun D2 c2 h7' tk7 vs2 ps2 F16 N16 lt2 d2 perm2 asc2 => ?_
              k_steps
              unfold Halt
              refine cps fun Pz kz => ?_
              obtain ⟨Z, zX, zA, zY, zT, zF⟩ := apart_ext (F := (ED, listOf ev.toArray ee) :: (LD, tabD PySem.Challenge.rw_rh0204_01.row.prog w xs2 ep2) :: (FD, listOf fl.toArray fe) :: (own ++ own2)) (X := X4) (fun q hq => N16 q (.tail _ (.tail _ (.tail _ hq)))) ex (fun q hq => .tail _ (.tail _ (.tail _ (List.mem_append_right _ hq)))) (fun p hp => by
                revert p
                refine fa ?_ (fa ?_ (fa ?_ fun p hp => ?_))
                · exact ⟨.head _, by intro e; exact absurd (Value.type.inj e) (by decide)⟩
                · exact ⟨.tail _ (.head _), by intro e; exact absurd (Value.type.inj e) (by decide)⟩
                · exact ⟨.tail _ (.tail _ (.head _)), by intro e; exact absurd (Value.type.inj e) (by decide)⟩
                · refine ⟨.tail _ (.tail _ (.tail _ (List.mem_append_left _ hp))), ?_⟩
                  rcases List.mem_append.mp hp with hp | hp
                  · exact hoc p hp
                  · exact hoc2 p hp) (p2.sub fun p hp => by
                  rcases List.mem_cons.mp hp with rfl | hp
                  · exact ⟨_, .head _⟩
                  · exact ⟨p.2, .tail _ hp⟩)
              refine kz ?_
              clear kz Pz
              have dZ : DatAll Z vs2 (ps2.map pd) := dats_tup (fun q hq ht => by
                revert q
                refine fa (fun ht => ?_) (fa (fun ht => ?_) fun q hq ht => ?_)
                · exact absurd ht not_tup_tab
                · exact absurd ht not_tup_lst
                · exact zT q hq ht) d2 (noL_pds _)
              have apX : Apart ((LD, tabD PySem.Challenge.rw_rh0204_01.row.prog w xs2 ep2) :: (FD, listOf fl.toArray fe) :: (own ++ own2)) ((D2, listOf vs2.toArray c2) :: Z) := (zA.sub fun p hp => ⟨p.2, .tail _ hp⟩).fresh fun p hp => lt2 p (.tail _ (.tail _ (zF p (.tail _ hp))))
              have N17 : News _ _ _ ((LD, tabD PySem.Challenge.rw_rh0204_01.row.prog w xs2 ep2) :: (FD, listOf fl.toArray fe) :: ((own ++ own2) ++ ((D2, listOf vs2.toArray c2) :: Z))) := fun q hq => N16 q (by
                revert q
                refine fa ?_ (fa ?_ (fapp (fun q hq => ?_) (fa ?_ fun q hq => ?_)))
                · exact .tail _ (.tail _ (.tail _ (zF _ (.tail _ (.head _)))))
                · exact .tail _ (.tail _ (.tail _ (zF _ (.tail _ (.tail _ (.head _))))))
                · exact .tail _ (.tail _ (.tail _ (zF _ (.tail _ (.tail _ (.tail _ hq))))))
                · exact .head _
                · exact .tail _ (.tail _ (.tail _ (zY _ hq))))
              have xZ : ∀ q ∈ X2, q ∈ (D2, listOf vs2.toArray c2) :: Z := fun q hq => .tail _ (zX.1 q (p1 q (sX3 q hq)))
              have nd2 : (xs2.map (·.1)).Nodup := by rw [m4]; exact hnd.take
              have T8 : Tab PySem.Challenge.rw_rh0204_01.row.prog w ((LD, tabD PySem.Challenge.rw_rh0204_01.row.prog w xs2 ep2) :: (FD, listOf fl.toArray fe) :: ((own ++ own2) ++ ((D2, listOf vs2.toArray c2) :: Z))) LD xs2 ep2 := ⟨lod, .head _, fun x hx => (m3 x hx).mono fun q hq => .tail _ (.tail _ (List.mem_append_right _ (xZ q hq))), nd2⟩
              have hl2 : xs2.length ≤ 5 := by have := congrArg List.length m4; rw [List.length_map, List.length_take, List.length_map] at this; omega
              refine tab_set (by assumption) N17 T8 (hkey.mono fun q hq => .tail _ (.tail _ (List.mem_append_right _ (xZ q (nX q hq))))) (by ktr_units) (by omega) (UpdF.head fun q hq => ?_) fun hA tkA epA FA NA => ?_
              · revert q
                refine fa ?_ (fapp (fapp (fun q hq => ?_) fun q hq => ?_) fun q hq => ?_)
                · exact Nat.ne_of_lt (l7 _ (.head _))
                · exact Nat.ne_of_lt (l7 q (List.mem_append_right _ hq))
                · exact hown2 q hq LD (.head _)
                · exact apX q hq _ (.head _)
              rw [tabPut_new hnew] at NA
              k_steps
              refine Aft.intro (B2S.mk (xs2 ++ [(k0, ka, .ref D2)]) epA ((D2, listOf vs2.toArray c2) :: Z)) (by assumption) NA mem2 mem2o (own_off2 hown2 apX fun p hp => .tail _ (.tail _ (List.mem_append_right _ hp))) (fun _ h => nomatch h) (fun z hz hs => by
                simp only [List.contains_cons, List.contains_nil, Bool.or_eq_false_iff, beq_eq_false_iff_ne, ne_eq, and_true, Bool.or_false] at hs
                refine cps fun Pz kz => ?_
                obtain ⟨a1, a2, a3, a4⟩ := hs
                refine kz ?_
                clear kz Pz
                simp [kstB, a1, a2, a3, a4]
                exact hMs z a1 a2 a3 a4) ⟨fun q hq => xZ q (m1 q hq), apX.sub fun p hp => ?_, fun x hx => ?_, ?_, fun r hr => ?_⟩
              · revert p
                refine fa ?_ (fa ?_ fun p hp => ?_)
                · exact ⟨_, .head _⟩
                · exact ⟨_, .tail _ (.head _)⟩
                · exact ⟨p.2, .tail _ (.tail _ (List.mem_append_left _ hp))⟩
              · revert x
                refine fapp (fun x hx => ?_) fun x hx => ?_
                · exact (m3 x hx).mono xZ
                · rw [List.mem_singleton.mp hx]; exact hkey.mono fun q hq => xZ q (nX q hq)
              · dsimp only
                rw [List.map_append, m4, htk1]
                rfl
              · rw [htk2] at hr
                revert r
                refine fapp (fun r hr => ?_) fun r hr => ?_
                · refine cps fun Pz kz => ?_
                  obtain ⟨l, vs, c, ps, e1, e2, e3, e4⟩ := m5 r hr
                  refine kz ?_
                  clear kz Pz
                  exact ⟨l, vs, c, ps, tabLook_old e1, xZ _ e2, e3.mono xZ, e4⟩
                · rw [List.mem_singleton.mp hr]
                  exact ⟨D2, vs2, c2, ps2, tabLook_last hnew, .head _, dZ.mono fun q hq => .tail _ hq, asc2, fun h => (perm2.mem_iff.trans (hkeys h)).trans (p4 h)⟩
      · rintro J9_0 u2 h tk J4 F9 N9
        refine cps fun Pz kz => ?_
        obtain ⟨xs2, ep2, X2⟩ := J9_0
        refine an5 J4 fun m1 m2 m3 m4 m5 => ?_
        clear J4
        refine kz ?_
        clear kz Pz
        dsimp only at m1 m2 m3 m4 m5 F9 N9
        have hsz : (List.map (entP PySem.Challenge.rw_rh0204_01.row.prog w) xs).toArray.size = rs.length := by simp [hlx]
        rw [hsz] at m5
        rw [hsz, show rs.length = (rs.map (·.1)).length by simp, List.take_length] at m4
        rw [List.take_length] at m5
        have hi8 : i < rs.length := by rw [← hsz]; exact hi
        k_steps
        unfold Halt
        refine append_at' (x := .ref LD) ((LD, tabD PySem.Challenge.rw_rh0204_01.row.prog w xs2 ep2) :: (own ++ X2)) (by assumption) (by assumption) (.tail _ (.head _)) (fun q hq => ?_) (fun q hq => ?_) (by omega) fun hA nA FA NA => ?_
        · revert q
          refine fa ?_ fun q hq => ?_
          · exact .head _
          · exact .tail _ (.tail _ hq)
        · revert q
          refine fa ?_ (fapp (fun q hq => ?_) fun q hq => ?_)
          · exact Nat.ne_of_gt (l7 _ (.head _))
          · exact hown q hq FD (.head _)
          · exact m2 q hq _ (.tail _ (.head _))
        k_steps
        have xZ : ∀ q ∈ X2, q ∈ (LD, tabD PySem.Challenge.rw_rh0204_01.row.prog w xs2 ep2) :: X2 := fun q hq => .tail _ hq
        refine Aft.intro (B1S.mk (fl ++ [.ref LD]) nA ((LD, tabD PySem.Challenge.rw_rh0204_01.row.prog w xs2 ep2) :: X2)) (by assumption) NA (fun q hq => ?_) (fun q hq => .tail _ (.tail _ (List.mem_append_left _ hq))) (fun p hp b hb => ?_) (fun _ h => nomatch h) (fun z hz hs => by
          simp only [List.contains_cons, List.contains_nil, Bool.or_eq_false_iff, beq_eq_false_iff_ne, ne_eq, and_true, Bool.or_false] at hs
          refine cps fun Pz kz => ?_
          obtain ⟨a1, a2, a3, a4, a5, a6⟩ := hs
          refine kz ?_
          clear kz Pz
          simp [kstB, a1, a2, a3, a4, a5, a6]
          exact hMt z a1 a2 a3 a4 a5 a6) ⟨fun q hq => .tail _ (m1 q (j1 q hq)), fun q hq p hp => ?_, by dsimp only; rw [List.length_append, List.length_singleton]; omega, fun j hj => ?_⟩
        · revert q
          refine fa ?_ (fa ?_ fun q hq => ?_)
          · exact .head _
          · exact .tail _ (.head _)
          · exact .tail _ (.tail _ (List.mem_append_right _ hq))
        · refine cps fun Pz kz => ?_
          obtain ⟨q, hq, rfl⟩ := List.mem_map.mp hb
          refine kz ?_
          clear kz Pz hb
          revert q
          refine fa ?_ (fa ?_ fun q hq => ?_)
          · exact hown p hp FD (.head _)
          · exact Nat.ne_of_lt (l7 p (List.mem_append_right _ hp))
          · exact fun e => m2 q hq p (.tail _ (.tail _ hp)) e.symm
        · rw [List.mem_singleton.mp hp]
          revert q
          refine fa ?_ fun q hq => ?_
          · exact Nat.ne_of_gt (l7 (FD, listOf fl.toArray fe) (.head _))
          · exact m2 q hq (FD, listOf fl.toArray fe) (.tail _ (.head _))
        · rcases Nat.lt_or_ge j (i + 1) with h | h
          · obtain ⟨dj, e, ta⟩ := j4 j (by omega)
            exact ⟨dj, by dsimp only; rw [List.getElem?_append_left (by omega)]; exact e, ta.mono fun q hq => .tail _ (m1 q hq)⟩
          · obtain rfl : j = i + 1 := by omega
            refine ⟨LD, by dsimp only; rw [List.getElem?_append_right (by omega), j3, Nat.sub_self]; rfl, xs2, ep2, ⟨lod, .head _, fun x hx => (m3 x hx).mono xZ, by rw [m4]; exact hnd⟩, fun r hr => ?_⟩
            refine cps fun Pz kz => ?_
            obtain ⟨l, vs, c, ps, e1, e2, e3, e4⟩ := m5 r hr
            refine kz ?_
            clear kz Pz
            exact ⟨l, vs, c, ps, e1, xZ _ e2, e3.mono xZ, e4⟩
    · rintro J9_0 u h tk J5 F5 N5
      refine cps fun Pz kz => ?_
      obtain ⟨fl, fe, X⟩ := J9_0
      refine an4 J5 fun j1 j2 j3 j4 => ?_
      clear J5
      refine kz ?_
      clear kz Pz
      dsimp only at j1 j2 j3 j4 F5 N5
      have hsz : (List.map (entP PySem.Challenge.rw_rh0204_01.row.prog w) xs).toArray.size = rs.length := by simp [hlx]
      rw [hsz] at j3 j4
      k_steps
      with_reducible rename News _ _ _ _ => N8
      refine hret _ ((FD, listOf fl.toArray fe) :: X) _ _ (by assumption) N8 ⟨fun q hq => .tail _ (j1 q hq), FD, fl, fe, rfl, .head _, j3, fun j hj => ?_⟩
      obtain ⟨dj, e, ta⟩ := j4 j hj
      exact ⟨dj, e, ta.mono fun q hq => .tail _ hq⟩
end
section
theorem fresh43 : True := by w_top off; trivial
open LCg

local macro_rules | `(tactic| walk_at "AtSrc") => `(tactic| (k_here; refine halt ?_))
local macro_rules | `(tactic| walk_at "CompEnd") => `(tactic| (k_here; refine halt ?_))
local macro_rules | `(tactic| walk_at "call ref") => `(tactic| (k_here; refine halt ?_))
local macro_rules | `(tactic| walk_at "subscriptTail") => `(tactic| (k_here; (with_reducible show wpAny _ _ (subscriptTail _ _ (Value.ref _) (Value.ref _)) _ _ _); refine halt ?_))
local macro_rules | `(tactic| walk_at "subscriptTail Name UnaryOp ref int") => `(tactic| (k_here; refine halt ?_))
local macro_rules | `(tactic| k_updF) => `(tactic| first | (refine' UpdF.head ?a; (case a => walk_at "off")) | (refine' UpdF.tail ?a ?b; (case a => k_ne); (case b => k_updF)))
local macro_rules | `(tactic| walk_at "off") => `(tactic| first | assumption | (refine' off_cons ?o1 ?o2; (case o1 => (first | assumption | k_ne)); (case o2 => walk_at "off")))
noncomputable def resD : Option Int → Dat
  | none => .none
  | some n => .int n
theorem two_cells {h₀ h : Heap} {L c1 c2 : Addr} {o1 o2 : Obj} {v1 v2 : Option Value} {X Y : List (Addr × Obj)} (N : News h₀ L h Y) (e : Ext ((c1, o1) :: (c2, o2) :: X) Y) (h12 : @Ne Nat c2 c1) (hX1 : ∀ q ∈ X, @Ne Nat q.1 c1) (hX2 : ∀ q ∈ X, @Ne Nat q.1 c2) (d1 : o1.data = .cell v1) (d2 : o2.data = .cell v2) :
    ∃ Z, News h₀ L h ((c1, o1) :: (c2, o2) :: Z) ∧ (∀ q ∈ Z, q.1 ≠ c1) ∧ (∀ q ∈ Z, q.1 ≠ c2) ∧ Ext X Z ∧ ∀ q ∈ Y, IsTup q.2 → q ∈ Z := by
  refine cps fun Pz kz => ?_
  obtain ⟨Z1, N1, a1, e1, t1⟩ := ext_cell N e (fun q hq => by
    revert q
    refine fa ?_ fun q hq => ?_
    · exact h12
    · exact hX1 q hq) d1
  obtain ⟨Z2, N2, a2, e2, t2⟩ := ext_cell (fun q hq => N1 q (.tail _ hq)) e1 hX2 d2
  refine kz ?_
  clear kz Pz
  have m1 := N1 _ (.head _)
  refine ⟨Z2.filter fun q => decide (@Ne Nat q.1 c1), fun q hq => ?_, fun q hq => of_decide_eq_true (List.mem_filter.mp hq).2, fun q hq => a2 q (List.mem_filter.mp hq).1, ⟨fun q hq => List.mem_filter.mpr ⟨e2.1 q hq, decide_eq_true (hX1 q hq)⟩, fun q hq => e2.2 q (List.mem_filter.mp hq).1⟩, fun q hq ht => List.mem_filter.mpr ⟨t2 q (t1 q hq ht) ht, decide_eq_true ?_⟩⟩
  · revert q
    refine fa ?_ (fa ?_ fun q hq => ?_)
    · exact m1
    · exact N2 _ (.head _)
    · exact N2 q (.tail _ (List.mem_filter.mp hq).1)
  · exact a1 q (t1 q hq ht)
local macro_rules | `(tactic| walk_at "subscriptTail Name Name ref int") => `(tactic| (k_here; refine halt ?_))
local macro_rules | `(tactic| walk_at "subscriptTail Name Constant ref int") => `(tactic| (k_here; (with_reducible show wpAny _ _ (subscriptTail (PySem.Expr.Name (Str.ofString "least") _) _ _ _) _ _ _); refine halt ?_))
/-- the rows of the tables at one prefix, from none on -/
noncomputable def KnownAt (Y : List (Addr × Obj)) (lk : Int → Hit) (wo : Wo) (ys : List Value) : Prop := ∀ j, j < ys.length → ∃ (l : Addr) (vs : List Value) (c : Nat) (ps : List (Int × Int)), ys[j]? = some (.ref l) ∧ (l, listOf vs.toArray c) ∈ Y ∧ DatAll Y vs (ps.map pd) ∧ Asc ps ∧ ∀ h, h ∈ ps ↔ Bh lk j wo h
local macro_rules | `(tactic| walk_at "call builtin:len") => `(tactic| (k_here; refine halt ?_))
local macro_rules | `(tactic| walk_at "isTrue BoolOp") => `(tactic| (k_here; walk_at "own fold"))
local macro_rules | `(tactic| walk_at "eval Call") => `(tactic| (k_here; walk_at "own fold"))
local macro_rules | `(tactic| walk_at "isTrue Compare") => `(tactic| (k_here; walk_at "own fold"))
local macro_rules | `(tactic| walk_at "eval Tuple") => `(tactic| (k_here; walk_at "own fold"))
local macro_rules | `(tactic| walk_at "eval BinOp") => `(tactic| (k_here; walk_at "own fold"))
local macro_rules | `(tactic| walk_at "exec Assign") => `(tactic| (k_here; walk_at "own fold"))
local macro_rules | `(tactic| walk_at "eval Subscript") => `(tactic| (k_here; walk_at "own fold"))
/-- the indices that were picked: the first is the least that bears the word -/
noncomputable def Picked (NE : Nat → Prop) (i : Nat) (L : List Nat) : Prop := (∀ b, L.head? = some b → b < i ∧ NE b ∧ ∀ a, a < b → ¬ NE a) ∧ (L = [] → ∀ a, a < i → ¬ NE a)
theorem Picked.yes {NE : Nat → Prop} {i : Nat} {L : List Nat} (h : Picked NE i L) (hn : NE i) : Picked NE (i + 1) (L ++ [i]) := by
  refine ⟨fun b hb => ?_, fun e => by simp at e⟩
  cases L with
  | nil => cases hb; exact ⟨by omega, hn, h.2 rfl⟩
  | cons a r => obtain ⟨h1, h2⟩ := h.1 b hb; exact ⟨by omega, h2⟩
theorem Picked.no {NE : Nat → Prop} {i : Nat} {L : List Nat} (h : Picked NE i L) (hn : ¬ NE i) : Picked NE (i + 1) L :=
  ⟨fun b hb => let ⟨h1, h2⟩ := h.1 b hb; ⟨by omega, h2⟩, fun e a ha => by
    rcases Nat.lt_or_ge a i with h1 | h1
    · exact h.2 e a h1
    · rwa [show a = i by omega]⟩
noncomputable abbrev intsN (L : List Nat) : List Dat := List.map Dat.int (List.map (fun a : Nat => (a : Int)) L)
theorem ext_pick {news X : List (Addr × Obj)} (hs : ∀ q ∈ news, q ∈ X) : ∃ Z, Ext news Z ∧ (∀ q ∈ Z, q ∈ X) ∧ ∀ q ∈ X, IsTup q.2 → q ∈ Z := by
  classical
  refine ⟨X.filter fun q => decide (q ∈ news ∨ q.2.cls = .type "tuple"), ⟨fun q hq => List.mem_filter.mpr ⟨hs q hq, decide_eq_true (.inl hq)⟩, fun q hq => of_decide_eq_true (List.mem_filter.mp hq).2⟩, fun q hq => (List.mem_filter.mp hq).1, fun q hq ht => List.mem_filter.mpr ⟨hq, decide_eq_true (.inr ?_)⟩⟩
  obtain ⟨_, _, h⟩ := ht
  rw [h]
theorem noL_due (es : List (Int × Int)) (res : Option Int) : NoL (.tuple [.tuple (es.map pd), resD res]) := by
  cases res <;> simp [NoL, NoLs, resD, noL_pds]
theorem due_con (w : World) (d : Addr) (xs : List Row) (ep : Nat) (rs : List RowW) (y most : Int) (ty tm : Tok) (news : List (Addr × Obj)) (T₁ : Tab PySem.Challenge.rw_rh0204_01.row.prog w news d xs ep) (hrows : Paired (RowOk news) xs rs) (hz : rs.length ≤ 5) (hc : ∀ r ∈ rs, Cn r.1.1 r.1.2 ∧ r.2.ok) (h0 : 0 ≤ y) (h8 : y < 8) (hm0 : -10 < most) (hm : most < 10000000) :
    Con w 180 [.ref d, .int y ty, .int most tm] 30 700 news fun r news' => Ext news news' ∧ ∃ es res, DatIn news' r (.tuple [.tuple (es.map pd), resD res]) ∧ Asc es ∧ (∀ h, h ∈ es ↔ Reach (lkR rs) most y [] h) ∧ ∀ r', DepthR (lkR rs) most [y] [] 0 r' → r' = res := by
  unfold Con
  k_fill
  intro p loose mean mg mb dp un gd cn cs a ccd cl outer A₀ base h₀ L m s R B F X N T hk hdp hu hret
  have hrs := rows_keys hrows
  have hnd : (rs.map (·.1)).Nodup := by rw [hrs]; exact T₁.nodup
  walk_at "enter cells"
  with_reducible rename News _ _ _ _ => N1
  with_reducible rename Fr _ _ _ _ => F1
  rename_i g1 L1 h1 tk1 FG1 B1 X1 T1 l1 oc1 oc2 d1 d2
  have d1 : oc1.data = .cell none := d1
  have d2 : oc2.data = .cell none := d2
  k_steps
  unfold Halt
  have M := match_con w d xs ep rs y ty ((L1 + 1 + 1, oc1) :: (L1 + 1, oc2) :: news) (T₁.mono fun q hq => .tail _ (.tail _ hq)) hrs hz (fun r hr => (hc r hr).1) h0 h8
  walk_at "own call"
  intro r9 news9 h9 tk9 F9 N9 P9
  refine cps fun Pz kz => ?_
  obtain ⟨ex9, d9⟩ := P9
  obtain ⟨Z, NZ, z1, z2, eZ, tZ⟩ := two_cells N9 ex9 (Nat.ne_of_lt (Nat.lt_succ_self _)) (fun q hq => Nat.ne_of_lt (Nat.lt_succ_of_lt (Nat.lt_succ_of_lt (l1 q hq)))) (fun q hq => Nat.ne_of_lt (Nat.lt_succ_of_lt (l1 q hq))) d1 d2
  refine kz ?_
  clear kz Pz
  cases hg : lkR rs y with
  | none =>
    rw [hg] at d9
    subst d9
    clear N9 ex9 tZ M
    k_steps
    with_reducible rename News _ _ _ _ => N5
    have e5 := ext_news N5 (Ext.add (Ext.add (Ext.refl _) rfl) rfl)
    refine cps fun Pz kz => ?_
    obtain ⟨Z', y1, y2, y3⟩ := ext_drop (A := [(_, _), (_, _)]) ((Ext.cons (Ext.cons eZ)).trans e5)
    refine kz ?_
    clear kz Pz
    refine hret _ Z' _ _ (by assumption) (fun q hq => N5 q (y2 q hq)) ⟨y1, [], none, dat_tup y3 (.tuple (.head _) (.cons (.tuple (.tail _ (.head _)) .nil) (.cons .none .nil))) (by simp [NoL, NoLs, resD]), .nil, fun h => ⟨fun h => (nomatch h), fun h => (reach_none (.inl hg) h).elim⟩, fun r' D => depth_none (lkR_one hnd) hg D⟩
  | some pw =>
    refine cps fun Pz kz => ?_
    obtain ⟨pp, wo⟩ := pw
    rw [hg] at d9
    have d9 := dat_tup tZ d9 (by simp [NoL, NoLs])
    clear N9 ex9 tZ M
    obtain ⟨ma, mk1, i1, i2', rfl, hma⟩ := pd_inv d9
    have hm' := lkR_mem hg
    obtain ⟨xv, hxv, dxv⟩ := rows_look hrows T₁.nodup hm'
    refine kz ?_
    clear kz Pz
    have hwok := (hc _ hm').2
    dsimp only at hxv dxv hwok
    k_steps
    · with_reducible rename News _ _ _ _ => N5
      have e5 := ext_news N5 (Ext.add (Ext.add (Ext.refl _) rfl) rfl)
      refine cps fun Pz kz => ?_
      obtain ⟨Z', y1, y2, y3⟩ := ext_drop (A := [(_, _), (_, _)]) ((Ext.cons (Ext.cons eZ)).trans e5)
      refine kz ?_
      clear kz Pz
      refine hret _ Z' _ _ (by assumption) (fun q hq => N5 q (y2 q hq)) ⟨y1, [], none, dat_tup y3 (.tuple (.head _) (.cons (.tuple (.tail _ (.head _)) .nil) (.cons .none .nil))) (by simp [NoL, NoLs, resD]), .nil, fun h => ⟨fun h => (nomatch h), fun h => (reach_none (.inr (by omega)) h).elim⟩, fun r' D => depthR_stop D (.inr (by omega))⟩
    · unfold Halt
      with_reducible rename News _ _ _ _ => N5
      with_reducible rename Fr _ _ _ _ => F5
      have hm1 : 1 ≤ most := by omega
      have T6 := T₁.mono eZ.1
      have dxv := wo_mono (fun q hq _ => eZ.1 q hq) dxv
      have zL := fun (q : Addr × Obj) (hq : q ∈ Z) => List.mem_cons_of_mem (L1 + 1 + 1, oc1) hq
      refine tab_tail N5 T6 (fun q hq => .tail _ (.tail _ hq)) d9 (fun q hq => .tail _ (.tail _ hq)) (by ktr_units) hxv fun tk9 => ?_
      apply by_keyN (H := ∀ k, wo ≠ .direct k)
      case f =>
        intro key
        refine cps fun Pz kz => ?_
        obtain ⟨w2, yk2, ew, hwm⟩ := wo_inv3 dxv
        refine kz ?_
        clear kz Pz
        rw [ew]
        rcases hwm with ⟨dd, tv, t2, e, hwm⟩ | ⟨tv, v3, hno, hwm⟩ | ⟨tv, hno, hwm⟩
        · clear key
          subst e
          subst ew
          k_steps
          unfold Halt
          refine tab_tail (by assumption) T6 (fun q hq => .tail _ (.tail _ hq)) d9 (fun q hq => .tail _ (.tail _ hq)) (by ktr_units) hxv fun tk9 => ?_
          k_steps
          with_reducible rename News _ _ _ _ => N7
          have e5 := ext_news N7 (Ext.add (Ext.add (Ext.add (Ext.refl _) rfl) rfl) rfl)
          refine cps fun Pz kz => ?_
          obtain ⟨Z', y1, y2, y3⟩ := ext_drop (A := [(_, _), (_, _)]) ((Ext.cons (Ext.cons eZ)).trans e5)
          refine kz ?_
          clear kz Pz
          refine hret _ Z' _ _ (by assumption) (fun q hq => N7 q (y2 q hq)) ⟨y1, [(dd, y)], some 0, dat_tup y3 (.tuple (.head _) (.cons (.tuple (.tail _ (.head _)) (.one (.tuple (.tail _ (.tail _ (.head _))) (.cons (.int _ _) (.cons (.int _ _) .nil))))) (.cons (.int _ _) .nil))) (by simp [NoL, NoLs, resD]), by simp [Asc], fun h => ?_, fun r' D => depth_direct (lkR_one hnd) hg (by omega) D⟩
          rw [reach_direct hg (by omega)]
          simp
        · k_steps
          unfold Halt
          with_reducible rename Nat => tk0
          exact key hno tk0
        · k_steps
          unfold Halt
          with_reducible rename Nat => tk0
          exact key hno tk0
      case k =>
        intro hno tk0
        with_reducible rename News _ _ _ _ => N7
        with_reducible rename Fr _ _ _ _ => F7
        have MB := (fun {X : List (Addr × Obj)} (N : News g1 L1 _ X) (h : ∀ q ∈ Z, q ∈ X) => behind_con w d xs ep rs X (T6.mono h) (paired_mono (fun x r hx => RowOk.mono (fun q hq _ => h q (eZ.1 q hq)) hx) hrows) hz hc) N7 (fun q hq => .tail _ (.tail _ hq))
        walk_at "own call"
        intro r9 news9 h9 tk9 F9 N9 P9
        refine cps fun Pz kz => ?_
        obtain ⟨sub9, FD, fl, fe, rfl, mF, hfl, htab⟩ := P9
        obtain ⟨Y, NY, y1, y2, y3⟩ := led_front N9 (sub9 _ (.head _))
        refine kz ?_
        clear kz Pz
        have hY : ∀ q ∈ news9, (∀ v, q.2.data ≠ .cell v) → q ∈ Y := fun q hq hd => y2 q hq fun e => by
          have h1 : (L1 + 1 + 1, q.2) ∈ news9 := e ▸ hq
          have h2 := led_fn N9 (sub9 _ (.head _)) h1
          exact hd _ (by rw [← h2]; exact d1)
        have mF := hY _ mF fun v e => by cases e
        have ccY := y2 _ (sub9 _ (.tail _ (.head _))) (Nat.ne_of_lt (Nat.lt_succ_self _))
        have zY : ∀ q ∈ Z, q ∈ Y := fun q hq => y2 q (sub9 q (.tail _ (.tail _ hq))) (z1 q hq)
        have htab : ∀ j, j ≤ rs.length → ∃ dj, fl[j]? = some (.ref dj) ∧ TabAt PySem.Challenge.rw_rh0204_01.row.prog w rs (lkR rs) Y j dj := fun j hj => by
          obtain ⟨dj, e, ta⟩ := htab j hj
          exact ⟨dj, e, ta.keep hY⟩
        have dma := d9.mono zY
        clear N9 sub9 y2 y3 hY MB N7 F7
        k_steps
        unfold Halt
        refine AtSrc.intro (σ := Unit) (fun _ => (L1 + 1 + 1, oc1) :: Y) (fun i ys _ => ys.length = i ∧ KnownAt Y (lkR rs) wo ys) () (by assumption) NY (fun _ h => h) (srcList rfl NY (.tail _ mF) (by omega)) (fun _ _ _ _ => .tail _ mF) ⟨rfl, fun j hj => absurd hj (Nat.not_lt_zero _)⟩ ?_ ?_
        · rintro i v ys J9_3 I oI C oC D m₂ h tk E' hi hv J9_15 hC hx hI F8 N8 off ne
          refine cps fun Pz kz => ?_
          obtain ⟨⟩ := J9_3
          obtain ⟨q1, q2⟩ := J9_15
          obtain ⟨dj, e, xsj, epj, Tj, hrj⟩ := htab i (by omega)
          obtain rfl : v = .ref dj := Option.some.inj (hv.symm.trans e)
          obtain ⟨l, vs, c, ps, h1, h2, h3, h4, h5⟩ := hrj _ hm'
          refine kz ?_
          clear kz Pz
          dsimp only at N8 off
          unfold testsC
          refine wpAny_tests_nil ?_
          rw [if_pos rfl]
          k_steps
          unfold Halt
          refine tab_tail (by assumption) Tj (fun q hq => .tail _ (.tail _ (.tail _ (.tail _ hq)))) dma (fun q hq => .tail _ (.tail _ (.tail _ (.tail _ hq)))) (by ktr_units) h1 fun tk9 => ?_
          k_steps
          unfold Halt
          refine CompEnd.intro (by assumption) (by assumption) ((L1 + 1 + 1, oc1) :: Y) (fun _ h => h) off trivial ⟨(), rfl, by rw [List.length_append, List.length_singleton]; omega, fun j hj => ?_⟩
          rw [List.length_append, List.length_singleton] at hj
          rcases Nat.lt_or_ge j ys.length with hj' | hj'
          · refine cps fun Pz kz => ?_
            obtain ⟨l', vs', c', ps', e1, r⟩ := q2 j hj'
            refine kz ?_
            clear kz Pz
            exact ⟨l', vs', c', ps', by rw [List.getElem?_append_left hj']; exact e1, r⟩
          · obtain rfl : j = i := by omega
            exact ⟨l, vs, c, ps, by rw [List.getElem?_append_right (by omega), q1, Nat.sub_self]; rfl, h2, h3, h4, h5⟩
        · rintro ys ⟨⟩ ⟨q1, q2⟩ D h tk F8 N8 off
          k_steps
          unfold Halt
          refine slice_tail F8 N8 ⟨_, N8.get (.head _), rfl, _, rfl⟩ .none (.int most _) (fun D2 h2 F9 N9 lt9 => ?_) (by with_unfolding_all rfl) (by rw [List.size_toArray, sizeLine_eq]; omega)
          rw [kms_pick_eq, List.toList_toArray, kms_most hm1] at N9
          have hks : KnownAt Y (lkR rs) wo (ys.take most.toNat) := fun j hj => by
            rw [List.length_take] at hj
            obtain ⟨l', vs', c', ps', e1, r⟩ := q2 j (Nat.lt_min.mp hj).2
            exact ⟨l', vs', c', ps', by rw [List.getElem?_take_of_lt (Nat.lt_min.mp hj).1]; exact e1, r⟩
          have hkl : (ys.take most.toNat).length = min most.toNat (rs.length + 1) := by rw [List.length_take, q1, hfl]
          generalize ys.take most.toNat = ks at *
          have kj : ∀ j : Nat, j < ks.length ↔ (j : Int) < most ∧ j ≤ rs.length := fun j => by rw [hkl, Nat.lt_min, Int.lt_toNat, Nat.lt_succ_iff]
          have n1 : @Ne Nat D2 (L1 + 1 + 1) := Nat.ne_of_gt (lt9 (L1 + 1 + 1, oc1) (.tail _ (.head _)))
          have n2 : @Ne Nat D (L1 + 1 + 1) := fun e => off.1 e.symm
          k_steps
          unfold Halt
          with_reducible rename News _ _ _ _ => N10
          have hkl2 : ks.length ≤ 6 := by rw [hkl]; exact Nat.le_trans (Nat.min_le_right _ _) (Nat.succ_le_succ hz)
          clear hkl
          refine PyProof.Rows.len_list ⟨_, N10.get (.head _), rfl, _, rfl⟩ (by rw [List.size_toArray]; omega) ?_
          rw [List.size_toArray]
          k_steps
          unfold Halt
          with_reducible rename News _ _ _ _ => N11
          with_reducible rename IsRange _ _ _ _ _ _ _ _ => hr
          have NEb := fun a : Nat => ∃ h, Bh (lkR rs) a wo h
          refine AtSrc.intro (σ := Unit) (fun _ => (D2, listOf ks.toArray 0) :: (D, lst ys) :: (L1 + 1 + 1, _) :: Y) (fun i zs _ => ∃ L : List Nat, DatAll Y zs (intsN L) ∧ Picked (fun a => ∃ h, Bh (lkR rs) a wo h) i L) () (by assumption) N11 (fun _ h => h) (srcRange rfl hr (small_one (by omega) (by omega) (by omega) (by omega)) (rangeSize_nat _ _) (by omega)) (fun _ _ _ _ => trivial) ⟨[], .nil, fun b hb => (nomatch hb), fun _ a ha => absurd ha (Nat.not_lt_zero _)⟩ ?_ ?_
          · rintro i v zs J9_3 I oI C oC D3 m₂ h tk E' hi J9_14 J9_15 hC hx hI F12 N12 off3 ne
            refine cps fun Pz kz => ?_
            obtain ⟨⟩ := J9_3
            obtain ⟨tv, rfl⟩ := J9_14
            obtain ⟨L, dL, pL⟩ := J9_15
            have hik : i < ks.length := by simpa using hi
            obtain ⟨l, vs, c, ps, e1, e2, e3, e4, e5⟩ := hks i hik
            refine kz ?_
            clear kz Pz
            unfold testsC
            refine wpAny_tests_one ?_
            k_steps
            unfold Halt
            refine item_tail (by assumption) (.tail _ (.tail _ (.tail _ (.head _)))) (by omega) (by omega) (v := .ref l) (by rw [show ((0 : Int) + (i : Int)).toNat = i by omega]; exact e1) ?_
            k_steps
            all_goals unfold Halt
            · refine CompEnd.intro (by assumption) (by assumption) ((D2, listOf ks.toArray 0) :: (D, lst ys) :: (L1 + 1 + 1, _) :: Y) (fun q hq => .tail _ hq) off3 trivial ⟨(), rfl, L ++ [i], ?_, pL.yes ?_⟩
              · have e0 : intsN (L ++ [i]) = intsN L ++ [.int (i : Int)] := by simp [intsN]
                have hd : DatIn Y (Value.int (0 + (i : Int)) tv) (.int (i : Int)) := by rw [Int.zero_add]; exact .int _ _
                rw [e0]
                exact dL.append (.one hd)
              · cases ps with
                | nil => exact absurd rfl (by assumption : ¬ (List.map pd [] = []))
                | cons q r => exact ⟨q, (e5 q).mp (.head _)⟩
            · have hps : ps = [] := List.map_eq_nil_iff.mp (by assumption)
              refine CompEnd.intro (by assumption) (by assumption) ((D2, listOf ks.toArray 0) :: (D, lst ys) :: (L1 + 1 + 1, _) :: Y) (fun q hq => .tail _ hq) off3 trivial ⟨(), rfl, L, dL, pL.no ?_⟩
              rintro ⟨h, hb⟩
              have := (e5 h).mpr hb
              rw [hps] at this
              cases this
          · rintro zs J9_1 J9_2 D3 h tk F12 N12 off3
            refine cps fun Pz kz => ?_
            obtain ⟨⟩ := J9_1
            obtain ⟨LL, dL, pL⟩ := J9_2
            have hkn : ks.length - 1 < ks.length := Nat.sub_lt ((kj 0).mpr ⟨by omega, Nat.zero_le _⟩) Nat.one_pos
            obtain ⟨l, vs, c, ps, e1, e2, e3, e4, e5⟩ := hks (ks.length - 1) hkn
            refine kz ?_
            clear kz Pz
            have hps : ps.length ≤ 24 := asc_len e4 fun p hp => bh_rg hc _ _ p hwok ((e5 p).mp hp)
            have hvl := e3.length
            rw [List.length_map] at hvl
            have hzl := dL.length
            k_steps
            unfold Halt
            refine last_tail (by assumption) (.tail _ (.head _)) e1 (by omega) ?_
            k_steps
            · unfold Halt
              have nL : ∀ h, h ∈ ps ↔ Reach (lkR rs) most y [] h := fun h => by
                rw [e5, reach_iff (lkR_one hnd) (lkR_tab (rs := rs)) hg hno, List.length_map]
                exact ⟨fun hb => ⟨_, hb, (kj _).mp hkn⟩, fun ⟨j, hb, h1, h2⟩ => bh_mono (Nat.le_sub_one_of_lt ((kj j).mpr ⟨h1, h2⟩)) hb⟩
              cases LL with
              | nil => exact absurd rfl (by assumption : ¬ (intsN [] = []))
              | cons b r =>
                obtain ⟨pb1, pb2, pb3⟩ := pL.1 b rfl
                cases dL with
                | cons hd tl =>
                  obtain ⟨tb, rfl⟩ := int_inv hd
                  refine item_tail (by assumption) (.tail _ (.tail _ (.head _))) (by decide) (by decide) (v := .int b tb) rfl ?_
                  k_steps
                  with_reducible rename News _ _ _ _ => N14
                  obtain ⟨Z', x1, x2, x3⟩ := ext_pick (news := news) (fun q hq => List.Mem.tail _ (List.Mem.tail _ (List.Mem.tail _ (List.Mem.tail _ (List.Mem.tail _ (List.Mem.tail _ (List.Mem.tail _ (zY q (eZ.1 q hq)))))))))
                  refine hret _ Z' _ _ (by assumption) (fun q hq => N14 q (x2 q hq)) ⟨x1, ps, some (b : Int), dat_tup x3 (.tuple (.head _) (.cons (.tuple (.tail _ (.tail _ (.head _))) (e3.mono fun q hq => .tail _ (.tail _ (.tail _ (.tail _ (.tail _ (.tail _ (.tail _ hq)))))))) (.cons (.int _ _) .nil))) (noL_due _ _), e4, nL, fun r' D => ?_⟩
                  exact (depth_due (lkR_one hnd) (lkR_tab (rs := rs)) hg hno D).1 b ((kj b).mp (by simpa using pb1)).1 pb2 fun a ha => pb3 a ha
            · have nL : ∀ h, h ∈ ps ↔ Reach (lkR rs) most y [] h := fun h => by
                rw [e5, reach_iff (lkR_one hnd) (lkR_tab (rs := rs)) hg hno, List.length_map]
                exact ⟨fun hb => ⟨_, hb, (kj _).mp hkn⟩, fun ⟨j, hb, h1, h2⟩ => bh_mono (Nat.le_sub_one_of_lt ((kj j).mpr ⟨h1, h2⟩)) hb⟩
              have hL0 : LL = [] := List.map_eq_nil_iff.mp (List.map_eq_nil_iff.mp (by assumption : intsN LL = []))
              with_reducible rename News _ _ _ _ => N14
              obtain ⟨Z', x1, x2, x3⟩ := ext_pick (news := news) (fun q hq => List.Mem.tail _ (List.Mem.tail _ (List.Mem.tail _ (List.Mem.tail _ (List.Mem.tail _ (List.Mem.tail _ (List.Mem.tail _ (zY q (eZ.1 q hq)))))))))
              refine hret _ Z' _ _ (by assumption) (fun q hq => N14 q (x2 q hq)) ⟨x1, ps, none, dat_tup x3 (.tuple (.head _) (.cons (.tuple (.tail _ (.tail _ (.head _))) (e3.mono fun q hq => .tail _ (.tail _ (.tail _ (.tail _ (.tail _ (.tail _ (.tail _ hq)))))))) (.cons .none .nil))) (noL_due _ _), e4, nL, fun r' D => ?_⟩
              refine (depth_due (lkR_one hnd) (lkR_tab (rs := rs)) hg hno D).2 fun j hj1 hj2 => ?_
              rw [List.length_map] at hj2
              exact pL.2 hL0 j (by simpa using (kj j).mpr ⟨hj1, hj2⟩)
end
end
section
theorem wf_ok : ∀ t : Tree, WF t → t.ok := by
  intro t
  induction t with
  | nil => intro _; trivial
  | node x l w a b iha ihb => rintro ⟨⟨c1, c2, c3, c4, _⟩, _, _, wa, wb⟩; exact ⟨c1, c2, c3, c4, iha wa, ihb wb⟩
noncomputable def rowsOf (rs : List RowW) (ps : List (Int × Int)) : List RowW := ps.map fun p => (p, ((rowAt rs p).map (·.2)).getD .sink)
theorem rowsOf_keys (rs : List RowW) (ps : List (Int × Int)) : (rowsOf rs ps).map (·.1) = ps := by
  unfold rowsOf
  rw [List.map_map]
  exact List.map_id' ps
theorem rowsOf_at {rs : List RowW} (hn : (rs.map (·.1)).Nodup) {p : Int × Int} (hp : p ∈ rs.map (·.1)) : ∃ r ∈ rs, r.1 = p ∧ (p, ((rowAt rs p).map (·.2)).getD Wo.sink) = r := by
  obtain ⟨r, hr, rfl⟩ := List.mem_map.mp hp
  exact ⟨r, hr, rfl, by rw [rowAt_some hn hr]; rfl⟩
theorem rowsOf_mem {rs : List RowW} (hn : (rs.map (·.1)).Nodup) {ps : List (Int × Int)} (hp : ∀ p ∈ ps, p ∈ rs.map (·.1)) : ∀ r ∈ rowsOf rs ps, r ∈ rs := fun r hr => by
  obtain ⟨p, hpm, rfl⟩ := List.mem_map.mp hr
  obtain ⟨r, hr, _, e⟩ := rowsOf_at hn (hp p hpm)
  rw [e]; exact hr
theorem rowAt_rowsOf {rs : List RowW} (hn : (rs.map (·.1)).Nodup) {ps : List (Int × Int)} (hp : ∀ p, p ∈ ps ↔ p ∈ rs.map (·.1)) (hps : ps.Nodup) (p : Int × Int) : rowAt (rowsOf rs ps) p = rowAt rs p := by
  by_cases h : p ∈ ps
  · obtain ⟨r, hr, e1, e2⟩ := rowsOf_at hn ((hp p).mp h)
    have hm : r ∈ rowsOf rs ps := List.mem_map.mpr ⟨p, h, e2⟩
    rw [← e1, rowAt_some (by rw [rowsOf_keys]; exact hps) hm, rowAt_some hn hr]
  · rw [rowAt_none (rs := rs) fun r hr e => h ((hp p).mpr (List.mem_map.mpr ⟨r, hr, e⟩)), rowAt_none fun r hr e => h (by
      have : r.1 ∈ (rowsOf rs ps).map (·.1) := List.mem_map.mpr ⟨r, hr, rfl⟩
      rw [rowsOf_keys] at this
      rw [← e]; exact this)]
theorem lkR_rowsOf {rs : List RowW} (hn : (rs.map (·.1)).Nodup) {ps : List (Int × Int)} (hp : ∀ p, p ∈ ps ↔ p ∈ rs.map (·.1)) (hps : ps.Nodup) (y : Int) : lkR (rowsOf rs ps) y = lkR rs y := by
  unfold lkR
  rw [rowAt_rowsOf hn hp hps, rowAt_rowsOf hn hp hps, rowAt_rowsOf hn hp hps, rowAt_rowsOf hn hp hps]
theorem treeAll_snoc (rs : List RowW) (r : RowW) (t : Tree) : treeAll (rs ++ [r]) t = treePut r.1.1 r.1.2 r.2.dat (treeAll rs t) := by
  unfold treeAll
  rw [List.foldl_append]
  rfl
/-- the tree that holds the rows answers as the table -/
theorem look_rows {rs : List RowW} (hc : ∀ r ∈ rs, Cn r.1.1 r.1.2) (hn : (rs.map (·.1)).Nodup) {ps : List (Int × Int)} (hp : ∀ p, p ∈ ps ↔ p ∈ rs.map (·.1)) (hps : ps.Nodup) {y : Int} (h0 : 0 ≤ y) (h8 : y < 8) : lookGo y .none (treeAll (rowsOf rs ps) .nil) = hitD (lkR rs y) := by
  rw [look_lk (fun r hr => hc r (rowsOf_mem hn (fun p h => (hp p).mp h) r hr)) (by rw [rowsOf_keys]; exact hps) h0 h8, lkR_rowsOf hn hp hps]
theorem noL_node {x l : Int} {w : Dat} {a b : Tree} (hw : NoL w) (ha : NoL a.dat) (hb : NoL b.dat) : NoL (Tree.node x l w a b).dat := by
  simp only [Tree.dat, NoL, NoLs, and_true]
  exact ⟨by simp [pfxD, NoL, NoLs], hw, ha, hb⟩
theorem noL_put {x l : Int} {w : Dat} (hw : NoL w) : ∀ t : Tree, NoL t.dat → NoL (treePut x l w t).dat := by
  intro t
  induction t with
  | nil => intro _; exact noL_node hw (by simp [Tree.dat, NoL]) (by simp [Tree.dat, NoL])
  | node x1 l1 w1 a b iha ihb =>
    intro h
    have hh := h
    simp only [Tree.dat, NoL, NoLs, and_true] at hh
    obtain ⟨_, h1, h2, h3⟩ := hh
    have hn : NoL Dat.none := by simp [NoL]
    have hnil : NoL Tree.nil.dat := by simp [Tree.dat, NoL]
    unfold treePut
    repeat' split
    all_goals first | exact noL_node hw h2 h3 | exact noL_node h1 (iha h2) h3 | exact noL_node h1 h2 (ihb h3) | exact noL_node hw h hnil | exact noL_node hw hnil h | exact noL_node hn (noL_node hw hnil hnil) h | exact noL_node hn h (noL_node hw hnil hnil) | exact noL_node hn (noL_node hw hnil hnil) hnil | exact noL_node hn hnil (noL_node hw hnil hnil) | exact noL_node hn h hnil | exact noL_node hn hnil h
theorem noL_all (rs : List RowW) : ∀ t : Tree, NoL t.dat → NoL (treeAll rs t).dat := by
  induction rs with
  | nil => intro t h; exact h
  | cons r rs ih => intro t h; exact ih _ (noL_put (noL_wo _) t h)
end
section
open LCg
section
variable {prog : Program} {w : World} {A : Around} {E : Value → Shared → Prop} {R : Result → Shared → Prop} {s : Shared} {h₀ : Heap} {L : Addr} {m : Str → Option Value}
theorem start1 {elt t1 i1 : Expr} {ifs : List Expr} {g0 : Comprehension} {rest : List Comprehension} {scope : Scope} {pos : Pos} {it acc : Value} {env : Env}
    (h0 : codeAny (model prog w) A (.compLoop (.ListComp elt (g0 :: ⟨t1, i1, ifs, 0⟩ :: rest) scope pos) 1 it acc env) R s)
    (h : wpAny (model prog w) A (pyIter it) (fun it' s' => codeAny (model prog w) A (.compLoop (.ListComp elt (g0 :: ⟨t1, i1, ifs, 0⟩ :: rest) scope pos) 1 it' acc env) R s')
      (notedBy (model prog w) A env fun x s' => R (.error x) s') s) :
    codeAny (model prog w) A (.compStart (.ListComp elt (g0 :: ⟨t1, i1, ifs, 0⟩ :: rest) scope pos) 1 it acc env) R s := by
  refine codeAny_of_tree ?_
  show wpAny _ _ ((compStart (.ListComp elt (g0 :: ⟨t1, i1, ifs, 0⟩ :: rest) scope pos) 1 it acc env).onRaise (fun x => do noteFrame x env; standAt theWindowsPlace)) _ _ s
  refine wpAny_notedAt ?_
  unfold compStart
  show wpAny _ _ (ask >>= _) _ _ s
  refine wpAny_bind (wpAny_askSetting (wpAny_ite ?_))
  split
  · first
      | exact wpAny_bind (wpAny_pure (wpAny_pure (And.intro rfl h0)))
      | exact wpAny_pure (And.intro rfl h0)
  · first
      | exact wpAny_bind (wpAny_rule (wpAny_bind (wpAny_standAt (wpAny_bind (wpAny_mono h (fun it' s' h' => wpAny_pure (And.intro rfl h')) fun _ _ x => x)))))
      | (refine wpAny_bind (wpAny_rule ?_); show wpAny _ _ (standAt i1.pos >>= _) _ _ s; exact wpAny_bind (wpAny_standAt (wpAny_bind (wpAny_mono h (fun it' s' h' => wpAny_pure (And.intro rfl h')) fun _ _ x => x))))

/-- the outer clause of two: what a turn does with its item -/
noncomputable abbrev tailO (elt t0 i0 t1 i1 : Expr) (scope : Scope) (pos : Pos) (it acc : Value) (env : Env) : Sem Fin :=
  eval i1 env >>= fun x => standAt i1.pos >>= fun _ => foldedSetIterable i1 env x >>= fun x => holding [x] (pyIter x) >>= fun it1 =>
    runOwn (.compStart (.ListComp elt [⟨t0, i0, [], 0⟩, ⟨t1, i1, [], 0⟩] scope pos) 1 it1 acc env) env >>= fun _ => again (.compLoop (.ListComp elt [⟨t0, i0, [], 0⟩, ⟨t1, i1, [], 0⟩] scope pos) 0 it acc env)
noncomputable abbrev tailI (elt : Expr) (acc : Value) (env : Env) (c : Code) : Sem Fin := (eval elt env >>= fun x => call (.builtin "list.append") [acc, x] >>= fun _ => pure ()) >>= fun _ => again c
theorem turnO (elt t0 i0 t1 i1 : Expr) (scope : Scope) (pos : Pos) (it acc : Value) (env : Env) :
    compTurn (.ListComp elt [⟨t0, i0, [], 0⟩, ⟨t1, i1, [], 0⟩] scope pos) 0 it acc env = turnG i0.pos t0 it env (tailO elt t0 i0 t1 i1 scope pos it acc env) := by rfl
theorem turnI (elt t0 i0 t1 i1 : Expr) (scope : Scope) (pos : Pos) (it acc : Value) (env : Env) :
    compTurn (.ListComp elt [⟨t0, i0, [], 0⟩, ⟨t1, i1, [], 0⟩] scope pos) 1 it acc env = turnG i1.pos t1 it env (tailI elt acc env (.compLoop (.ListComp elt [⟨t0, i0, [], 0⟩, ⟨t1, i1, [], 0⟩] scope pos) 1 it acc env)) := by rfl
end
section
variable {prog : Program} {w : World} {A : Around} {E : Value → Shared → Prop} {s : Shared} {h₀ : Heap} {L : Addr} {m : Str → Option Value} {env : Env}
/-- an item of the outer list: a tuple of the ledger -/
noncomputable def TupIn (led : List (Addr × Obj)) (v : Value) (us : List Value) : Prop := ∃ a k, v = .ref a ∧ (a, ({ cls := .type "tuple", data := .seq us.toArray k } : Obj)) ∈ led
noncomputable def Marked (led : List (Addr × Obj)) (u y : Value) : Prop := ∃ a k, y = .ref a ∧ (a, ({ cls := .type "tuple", data := .seq #[u, .bool true] k } : Obj)) ∈ led
theorem Marked.mono {X Y : List (Addr × Obj)} (hs : ∀ q ∈ X, q ∈ Y) {u y : Value} (h : Marked X u y) : Marked Y u y := let ⟨a, k, e, hm⟩ := h; ⟨a, k, e, hs _ hm⟩
theorem paired_mn {α β : Type} {F G : α → β → Prop} (h : ∀ a b, F a b → G a b) {l₁ : List α} {l₂ : List β} (p : Paired F l₁ l₂) : Paired G l₁ l₂ := by
  induction p with
  | nil => exact .nil
  | cons a _ ih => exact .cons (h _ _ a) ih
theorem paired_at {α β : Type} {F : α → β → Prop} {l₁ : List α} {l₂ : List β} (p : Paired F l₁ l₂) : ∀ {i : Nat} {a : α}, l₁[i]? = some a → ∃ b, l₂[i]? = some b ∧ F a b := by
  induction p with
  | nil => intro i a h; cases h
  | cons f _ ih =>
    intro i a h
    cases i with
    | zero => cases h; exact ⟨_, rfl, f⟩
    | succ i => exact ih h
theorem flat_take {α : Type} {l : List (List α)} {i : Nat} {x : List α} (h : l[i]? = some x) : (l.take (i + 1)).flatten = (l.take i).flatten ++ x := by
  rw [List.take_add_one, h]; simp
theorem take_at {α : Type} {l : List α} {i : Nat} {x : α} (h : l[i]? = some x) : l.take (i + 1) = l.take i ++ [x] := by
  rw [List.take_add_one, h]; rfl

theorem two_eval {x y : Str} {iter : Expr} {px px2 py py2 pc pt pos : Pos} {kt kc : Nat} {scope : Scope} {cl : List (Str × Addr)} {Q : Value → Shared → Prop} (F₀ : Fr h₀ L s.heap m) (hh : A.handled = none)
    (hclos : closureFor scope env = pure cl) (hcell : ∀ y ∈ scope.names, y.2 ≠ .cell) (hkind : scope.kind = .function)
    (hnames : ∀ y ∈ scope.names, y.2 = .local → scope.names.lookup y.1 = some .local) (hx : scope.names.lookup x = some .local) (hy : scope.names.lookup y = some .local)
    (hdx : (x == ("__debug__" : Str)) = false) (hdy : (y == ("__debug__" : Str)) = false)
    (h : wpAny (model prog w) A (eval iter env) (fun xv s₂ => ∃ l c vs uss led, xv = .ref l ∧ Fr h₀ L s₂.heap m ∧ News h₀ L s₂.heap led ∧ (l, listOf vs.toArray c) ∈ led ∧ Paired (TupIn led) vs uss ∧ vs.length ≤ 100 ∧ (∀ us ∈ uss, us.length ≤ 10) ∧
      ∀ ys Y, Ext led Y → Paired (Marked Y) uss.flatten ys → FinE h₀ L m s₂ Q ys Y) E s)
    (hs : ∀ x, foldedSetIterable iter env x = pure x := by intro _; rfl) :
    wpAny (model prog w) A (eval (.ListComp (.Tuple [.Name y py, .Constant (.bool true) kc pc] kt pt) [⟨.Name x px, iter, [], 0⟩, ⟨.Name y py2, .Name x px2, [], 0⟩] scope pos) env) Q E s := by
  rw [eval_ListComp]
  refine wpAny_comprehension_free (use := none) rfl hs hclos hkind hnames (wpAny_mono h (fun xv s₁ h₁ => ?_) fun _ _ e => e)
  refine cps fun Pz kz => ?_
  obtain ⟨l, c, vs, uss, led, rfl, F, N, hm, hvu, hvl, hul, fin⟩ := h₁
  refine kz ?_
  clear kz Pz
  refine comp_open (RR := fun acc C => compPost (model prog w) A E none Q acc C) (srcList (prog := prog) (w := w) hh N hm (Nat.le_trans hvl (by decide))) hcell hkind F N fun I fp St g oC m' _ hLI free lowF W hIo hSt st1 F1 nsC N1 apart tk₀ => ?_
  have nL2 : L ≠ I + 2 := Nat.ne_of_lt (Nat.lt_succ_of_lt (Nat.lt_succ_of_lt hLI))
  have nL1 : L ≠ I + 1 := Nat.ne_of_lt (Nat.lt_succ_of_lt hLI)
  have kx : (compEnvC scope cl (I + 2) env).kindOf x = some .local := lookup_relabel_local hx
  have ky : (compEnvC scope cl (I + 2) env).kindOf y = some .local := lookup_relabel_local hy
  have kf : (compEnvC scope cl (I + 2) env).scope.kind = .function := by simp [compEnvC, relabel, hkind]
  have kp : ((compEnvC scope cl (I + 2) env).scope.kind == .class || ((compEnvC scope cl (I + 2) env).scope.kind == .module && (compEnvC scope cl (I + 2) env).locals != (compEnvC scope cl (I + 2) env).globals)) = false := by rw [kf]; rfl
  have n1 : (@Ne Nat I (I + 2)) ∧ (@Ne Nat I (I + 1)) ∧ (@Ne Nat (I + 2) (I + 1)) := ⟨by show I ≠ I + 2; omega, by show I ≠ I + 1; omega, by show I + 2 ≠ I + 1; omega⟩
  have hlen := hvu.length
  refine clauseG (σ := List (Addr × Obj)) (S := fun nw => (l, listOf vs.toArray c) ∈ nw) id (fun i ys X => Ext led X ∧ Paired (Marked X) (uss.take i).flatten ys ∧ ys.length ≤ 10 * i) rfl rfl rfl (turnO ..) W hIo hSt (fun b hb => Nat.ne_of_lt (Nat.lt_of_le_of_lt (lowF b hb) (by show I < I + 2; omega))) kx kp rfl ⟨Nat.ne_of_lt hLI, nL2⟩ ⟨free _ (Nat.le_refl _), free _ (Nat.le_add_right _ _)⟩ n1 (fun i ys X hj => hj.1.1 _ hm) ?_ ?_ st1 ⟨.refl _, .nil, by simp⟩ nsC F1 N1 apart
  · rintro i v ys X oI oC m₂ h tk E' hi hv J9_12 nsC hmx hnI F2 N2 off2
    refine cps fun Pz kz => ?_
    obtain ⟨j1, j2, j3⟩ := J9_12
    dsimp only [id] at N2 off2
    obtain ⟨us, hus, a, k, rfl, ha⟩ := paired_at hvu hv
    refine kz ?_
    clear kz Pz
    have hus10 := hul us (List.mem_of_getElem? hus)
    refine wpAny_bind (wpAny_Name (wpAny_loadName_local kf kx (nsC.ns (N2 _ (.tail _ (.head _))).1) hmx ?_) hdx)
    refine wpAny_bind (wpAny_standAt (wpAny_bind (wpAny_of_eq (a := .ref a) rfl ?_)))
    refine wpAny_bind (wpAny_holding ?_)
    have haX : (a, ({ cls := .type "tuple", data := .seq us.toArray k } : Obj)) ∈ X := j1.1 _ ha
    have ho := N2.get (.tail _ (.tail _ (.tail _ haX)))
    have hT : h.IsTuple a us.toArray := ⟨_, ho, rfl, _, rfl⟩
    have W1 := Walks.tuple (prog := prog) (w := w) hh h.objs.size a (Nat.ne_of_lt (Heap.lt_size ho)) us.toArray
    have ea : (fun (i : Nat) (v : Value) => us.toArray[i]? = some v) = fun i v => us[i]? = some v := by funext i v; simp
    rw [ea, show us.toArray.size = us.length by simp] at W1
    refine wpAny_pyIter_tuple hT ?_
    show wpAny _ _ ((run (.compStart (.ListComp (.Tuple [.Name y py, .Constant (.bool true) kc pc] kt pt) [⟨.Name x px, iter, [], 0⟩, ⟨.Name y py2, .Name x px2, [], 0⟩] scope pos) 1 (.ref h.objs.size) (.ref (I + 1)) (compEnvC scope cl (I + 2) env)) none).onRaise _ >>= _) _ _ _
    refine wpAny_bind (wpAny_onRaise (wpAny_run ?_))
    have bel : ∀ q ∈ (I, oI) :: (I + 2, oC) :: (I + 1, lst ys) :: X, q.1 < h.objs.size := fun q hq => Heap.lt_size (N2 q hq).1
    have b1 := bel _ (.head _)
    have b2 := bel _ (.tail _ (.head _))
    have b3 := bel _ (.tail _ (.tail _ (.head _)))
    dsimp only at b1 b2 b3
    have hL1 : L < h.objs.size := F2.ns.lt
    have m1 : (@Ne Nat h.objs.size (I + 2)) ∧ (@Ne Nat h.objs.size (I + 1)) ∧ (@Ne Nat (I + 2) (I + 1)) := ⟨Nat.ne_of_gt b2, Nat.ne_of_gt b3, n1.2.2⟩
    have off2m := off2.mem
    refine (fun key1 => start1 key1 (W1.self 0 _ _ _ ⟨⟨_, Heap.get?_push_size _ rfl, rfl, rfl⟩, hT.push _⟩ key1)) ?_
    refine clauseG (s₁ := s₁) (σ := List (Addr × Obj)) (S := fun nw => (a, ({ cls := .type "tuple", data := .seq us.toArray k } : Obj)) ∈ nw) (fun Z => (I, oI) :: Z) (fun j zs Z => Ext X Z ∧ Paired (Marked Z) ((uss.take i).flatten ++ us.take j) zs ∧ zs.length ≤ 10 * i + j ∧ Off3 I (I + 2) (I + 1) Z) rfl rfl rfl (turnI ..) W1 (fun i h st => let ⟨o, ho, _, hd⟩ := st.1; ⟨o, ho, fun xs n e => by rw [hd] at e; cases e⟩) (fun i h h' o nw st e e' k N' S' => ⟨?_, ⟨_, N'.get S', rfl, _, rfl⟩⟩)
      (fun b hb => ?_) ky kp rfl ⟨Nat.ne_of_lt hL1, nL2⟩ ⟨free _ (Nat.le_of_lt b1), free _ (Nat.le_add_right _ _)⟩ m1 (fun j zs Z hj => .tail _ (hj.1.1 _ haX)) ?_ ?_ ⟨⟨_, Heap.get?_push_size _ rfl, rfl, rfl⟩, hT.push _⟩ ⟨.refl _, by simpa using j2, by simpa using j3, off2⟩ nsC (F2.push _) ?_ ?_
    · obtain ⟨o', q, r⟩ := st.1
      rw [e] at q; cases q; exact ⟨o, e', r⟩
    · revert b
      refine fa ?_ fun b hb => ?_
      · exact m1.1
      · rw [List.mem_singleton.mp hb]; exact (off2m _ haX).2.1
    · rintro j u zs Z oI2 oC2 m₂ h' tk' E'' hj hu J9_12 nsC2 hmy hnI2 F3 N3 off3
      refine cps fun Pz kz => ?_
      obtain ⟨q1, q2, q3, q4⟩ := J9_12
      refine kz ?_
      clear kz Pz
      have off3m := off3.mem
      have bel' : ∀ q ∈ (h.objs.size, oI2) :: (I + 2, oC2) :: (I + 1, lst zs) :: (I, oI) :: Z, q.1 < h'.objs.size := fun q hq => Heap.lt_size (N3 q hq).1
      refine wpAny_bind (wpAny_bind (Tuple_ (wpAny_items_cons (wpAny_Name (wpAny_loadName_local kf ky (nsC2.ns (N3 _ (.tail _ (.head _))).1) hmy (wpAny_items_cons (wpAny_Constant_bool (wpAny_items_nil (newTuple_N F3 N3 (fun h4 F4 N4 => ?_) (by show 2 ≤ sizeLine; rw [sizeLine_eq]; omega)))))) hdy))))
      refine wpAny_bind (append_at (hsz := by show zs.toArray.size ≤ sizeLine; rw [List.size_toArray, sizeLine_eq]; omega) (N4 _ (.tail _ (.tail _ (.tail _ (.head _))))).1 fun h5 hs5 hD5 => wpAny_pure (wpAny_pure ⟨rfl, h5, tk', oC2, m₂, zs ++ [.ref h'.objs.size], (h'.objs.size, { cls := .type "tuple", data := .seq #[u, .bool true] }) :: Z, rfl, nsC2, F4.change hs5 nL1.symm (free _ (Nat.le_succ _)), fun q hq => ?_, ⟨off3.1, ⟨?_, ?_, ?_⟩, off3.2⟩, q1.trans ⟨fun q hq => .tail _ hq, fun q hq => ?_⟩, ?_, ?_, ⟨?_, ?_, ?_⟩, q4⟩))
      · revert q
        refine fa ?_ (fa ?_ (fa ?_ (fa ?_ (fa ?_ fun q hq => ?_))))
        · have z := N4 _ (.tail _ (.head _))
          exact ⟨hs5.extBut _ _ m1.2.1 z.1, z.2⟩
        · have z := N4 _ (.tail _ (.tail _ (.head _)))
          exact ⟨hs5.extBut _ _ m1.2.2 z.1, z.2⟩
        · exact ⟨hD5.trans (congrArg some (lst_snoc zs _)), nL1.symm, free _ (Nat.le_succ _)⟩
        · have z := N4 _ (.tail _ (.tail _ (.tail _ (.tail _ (.head _)))))
          exact ⟨hs5.extBut _ _ n1.2.1 z.1, z.2⟩
        · have z := N4 _ (.head _)
          exact ⟨hs5.extBut _ _ (Nat.ne_of_gt (bel' _ (.tail _ (.tail _ (.head _))))) z.1, z.2⟩
        · have z := N4 q (.tail _ (.tail _ (.tail _ (.tail _ (.tail _ hq)))))
          exact ⟨hs5.extBut _ _ (off3m q (.tail _ hq)).2.2 z.1, z.2⟩
      · exact Nat.ne_of_gt (bel' _ (.head _))
      · exact Nat.ne_of_gt (bel' _ (.tail _ (.head _)))
      · exact Nat.ne_of_gt (bel' _ (.tail _ (.tail _ (.head _))))
      · revert q
        refine fa ?_ fun q hq => ?_
        · exact .inr rfl
        · exact .inl hq
      · rw [take_at hu, ← List.append_assoc]
        exact (paired_mn (fun a b => Marked.mono fun q hq => .tail _ hq) q2).snoc ⟨_, _, rfl, .head _⟩
      · simp only [List.length_append, List.length_singleton]; omega
      · exact Nat.ne_of_gt (bel' _ (.tail _ (.tail _ (.tail _ (.head _)))))
      · exact Nat.ne_of_gt (bel' _ (.tail _ (.head _)))
      · exact Nat.ne_of_gt (bel' _ (.tail _ (.tail _ (.head _))))
    · rintro h' tk' zs Z oC2 m' J9_6 nsC2 F3 N3 off3
      refine cps fun Pz kz => ?_
      obtain ⟨q1, q2, q3, q4⟩ := J9_6
      refine kz ?_
      clear kz Pz
      refine wpAny_pure ⟨rfl, h', tk', oC2, m', zs, Z, rfl, nsC2, F3, fun q hq => N3 q ?_, q4, j1.trans q1, ?_, ?_⟩
      · revert q
        exact fa (.tail _ (.tail _ (.head _))) (fa (.head _) (fa (.tail _ (.head _)) fun q hq => .tail _ (.tail _ (.tail _ hq))))
      · rw [flat_take hus]
        rwa [List.take_length] at q2
      · omega
    · intro q hq
      refine (fun hq2 => ⟨Heap.get?_push_of_some _ (N2 q hq2).1, (N2 q hq2).2⟩) ?_
      revert q
      exact fa (.tail _ (.head _)) (fa (.tail _ (.tail _ (.head _))) (fa (.head _) fun q hq => .tail _ (.tail _ (.tail _ hq))))
    · refine Off3.of fun q hq => ?_
      revert q
      refine fa ?_ fun q hq => ?_
      · exact ⟨Nat.ne_of_lt b1, n1.1, n1.2.1⟩
      · exact ⟨Nat.ne_of_lt (bel q (.tail _ (.tail _ (.tail _ hq)))), (off2m q hq).2⟩
  · rintro h tk ys X oC m' ⟨j1, j2, j3⟩ nsC F2 N2 off2
    dsimp only [id] at N2 off2
    refine ⟨m', nsC.ns (N2 _ (.head _)).1, fun h'' hs'' => fin ys X j1 (by rwa [hlen, List.take_length] at j2) (I + 1) h'' tk (F2.change hs'' nL2.symm (free _ (Nat.le_add_right _ _))) (fun q hq => ⟨hs''.extBut _ _ ?_ (N2 q (.tail _ hq)).1, (N2 q (.tail _ hq)).2⟩) off2.one⟩
    revert q
    refine fa ?_ fun q hq => ?_
    · exact n1.2.2.symm
    · exact (off2.mem q hq).2.1
end
end
section
open LCg
theorem con_up {w : World} {f : Addr} {vs : List Value} {d u d' u' : Nat} {news : List (Addr × Obj)} {P : Value → List (Addr × Obj) → Prop} (h : Con w f vs d u news P) (hd : d ≤ d') (hu : u ≤ u') : Con w f vs d' u' news P :=
  fun p loose mean mg mb dp un gd cn cs a ccd cl outer A₀ base h₀ L m s R B F X N T hk h1 h2 hret => h p loose mean mg mb dp un gd cn cs a ccd cl outer A₀ base h₀ L m s R B F X N T hk (by omega) (by omega) hret
section
variable {prog : Program} {w : World} {A : Around} {E : Value → Shared → Prop} {s : Shared} {h₀ : Heap} {L : Addr} {news n₁ n₂ : List (Addr × Obj)} {m : Str → Option Value}
theorem ne_resD {X : List (Addr × Obj)} {r v : Value} {res : Option Int} {Q : Value → Shared → Prop} (hr : (res = none ∧ r = .none) ∨ ∃ d tk, res = some d ∧ r = .int d tk) (hv : DatIn X v (resD res)) (h : Q (.bool false) s) : wpAny (model prog w) A (compareOp .NotEq r v) Q E s := by
  rcases hr with ⟨rfl, rfl⟩ | ⟨d, tk, rfl, rfl⟩
  · cases hv
    exact EqNone.ne_none_none h
  · cases hv
    refine ne_int ?_
    simpa using h
theorem reads_pairs {b : Addr} {vs : List Value} {ps : List (Int × Int)} (N : News h₀ L s.heap news) (ht : PyProof.Rows.IsTup s.heap b vs.toArray) (hd : DatAll n₁ vs (ps.map pd)) (s1 : ∀ q ∈ n₁, q ∈ news) :
    (∃ as, Reads s.heap (.ref b) (.tuple (kqdPs (ps.map pd))) as) ∧ SeqAt.shaped (.tuple (kqdPs (ps.map pd))) = true := by
  obtain ⟨o, ho, hc, n, hdat⟩ := ht
  have ha := pds_ok ps
  obtain ⟨as, ra⟩ := kqd_all N 8 (hd.mono s1) ha
  have la := kqd_lay 9 (.tuple (ps.map pd)) (by simpa [kqdOk] using ha)
  rw [kqdP] at la
  refine ⟨⟨_, reads_tuple_at ho hc hdat (by simpa using ra)⟩, ?_⟩
  unfold SeqAt.shaped
  rw [la.1, Bool.true_and]
  exact decide_eq_true (Nat.le_trans la.2 (by decide))
theorem eqv_self (ps : List (Int × Int)) : PyData.eqv (.tuple (kqdPs (ps.map pd))) (.tuple (kqdPs (ps.map pd))) = true := by
  have q := kqd_eqv 9 (.tuple (ps.map pd)) (.tuple (ps.map pd)) 9 (by simpa [kqdOk] using pds_ok ps) (by simpa [kqdOk] using pds_ok ps)
  rw [kqdP] at q
  exact q.mpr rfl
theorem hopV_ref {X : List (Addr × Obj)} {v : Value} {ps : List (Int × Int)} (h : HopV X v ps) : ∃ b, v = .ref b := by
  rcases h with h | ⟨h, _⟩
  · obtain ⟨a, vs, k, e, hm, hd⟩ := dat_tuple_inv h
    exact ⟨a, e⟩
  · exact ⟨_, h⟩
theorem ne_hops {u v : Value} {ps : List (Int × Int)} {Q : Value → Shared → Prop} (F : Fr h₀ L s.heap m) (N : News h₀ L s.heap news) {nb : Nat} (h22 : h₀.get? 22 = some { cls := .type "tuple", data := .seq #[] nb }) (hu : HopV n₁ u ps) (s1 : ∀ q ∈ n₁, q ∈ news) (hv : HopV n₂ v ps) (s2 : ∀ q ∈ n₂, q ∈ news)
    (hun : A.units + 64 < cLine) (h : Q (.bool false) s) : wpAny (model prog w) A (compareOp .NotEq u v) Q E s := by
  obtain ⟨a, rfl⟩ := hopV_ref hu
  obtain ⟨b, rfl⟩ := hopV_ref hv
  obtain ⟨vs, d1, t1⟩ := hopV_at hu
  obtain ⟨ws, d2, t2⟩ := hopV_at hv
  obtain ⟨⟨as, ra⟩, sa⟩ := reads_pairs N (t1.at F N h22 s1) d1 s1
  obtain ⟨⟨bs, rb⟩, sb⟩ := reads_pairs N (t2.at F N h22 s2) d2 s2
  refine ne_dataH ra rb sa sb hun ?_
  rw [eqv_self]; exact h
theorem eq_hops {u v : Value} {ps : List (Int × Int)} {Q : Value → Shared → Prop} (F : Fr h₀ L s.heap m) (N : News h₀ L s.heap news) {nb : Nat} (h22 : h₀.get? 22 = some { cls := .type "tuple", data := .seq #[] nb }) (hu : HopV n₁ u ps) (s1 : ∀ q ∈ n₁, q ∈ news) (hv : HopV n₂ v ps) (s2 : ∀ q ∈ n₂, q ∈ news)
    (hun : A.units + 64 < cLine) (h : Q (.bool true) s) : wpAny (model prog w) A (compareOp .Eq u v) Q E s := by
  obtain ⟨a, rfl⟩ := hopV_ref hu
  obtain ⟨b, rfl⟩ := hopV_ref hv
  obtain ⟨vs, d1, t1⟩ := hopV_at hu
  obtain ⟨ws, d2, t2⟩ := hopV_at hv
  obtain ⟨⟨as, ra⟩, sa⟩ := reads_pairs N (t1.at F N h22 s1) d1 s1
  obtain ⟨⟨bs, rb⟩, sb⟩ := reads_pairs N (t2.at F N h22 s2) d2 s2
  refine eq_dataH ra rb sa sb hun ?_
  rw [eqv_self]; exact h
end
theorem uss_of {X : List (Addr × Obj)} {vs : List Value} {qs : List (List (Int × Int))} (p : Paired (fun v q => DatIn X v (.tuple (q.map pd))) vs qs) : ∃ uss, Paired (TupIn X) vs uss ∧ Paired (fun us q => DatAll X us (q.map pd)) uss qs := by
  induction p with
  | nil => exact ⟨[], .nil, .nil⟩
  | cons h _ ih =>
    obtain ⟨uss, r1, r2⟩ := ih
    obtain ⟨a, us, k, rfl, hm, hd⟩ := dat_tuple_inv h
    exact ⟨us :: uss, .cons ⟨a, k, rfl, hm⟩ r1, .cons hd r2⟩
theorem dats_flat {X : List (Addr × Obj)} {uss : List (List Value)} {qs : List (List (Int × Int))} (p : Paired (fun us q => DatAll X us (q.map pd)) uss qs) : DatAll X uss.flatten (qs.flatten.map pd) := by
  induction p with
  | nil => exact .nil
  | cons h _ ih =>
    rw [List.flatten_cons, List.flatten_cons, List.map_append]
    exact h.append ih
theorem marked_pairs {Y : List (Addr × Obj)} {us ys : List Value} {ps : List (Int × Int)} (p : Paired (Marked Y) us ys) : DatAll Y us (ps.map pd) → PairsIn Y ys (ps.map fun p => (p, Value.bool true)) := by
  induction p generalizing ps with
  | nil =>
    intro h
    cases ps with
    | nil => exact .nil
    | cons p ps => cases h
  | cons h _ ih =>
    intro d
    cases ps with
    | nil => cases d
    | cons p ps =>
      obtain ⟨v, r, e, d1, d2⟩ := dats_inv d
      cases e
      obtain ⟨a, k, t1, t2, rfl, hm⟩ := pd_inv d1
      obtain ⟨q, k2, rfl, hq⟩ := h
      exact .cons hq d1 (ih d2)
theorem sum_le3 : ∀ {qs : List (List (Int × Int))}, (∀ q ∈ qs, q.length ≤ 3) → (qs.map List.length).sum ≤ 3 * qs.length
  | [], _ => by simp
  | q :: qs, h => by
    have h1 := h q (.head _)
    have h2 := sum_le3 fun x hx => h x (.tail _ hx)
    simp only [List.map_cons, List.sum_cons, List.length_cons]
    omega
theorem uss_len {X : List (Addr × Obj)} {uss : List (List Value)} {qs : List (List (Int × Int))} (p : Paired (fun us q => DatAll X us (q.map pd)) uss qs) : (∀ q ∈ qs, q.length ≤ 3) → ∀ us ∈ uss, us.length ≤ 10 := by
  induction p with
  | nil => exact fun _ _ h => nomatch h
  | cons d _ ih =>
    intro hq
    refine fa ?_ (ih fun q hm => hq q (.tail _ hm))
    have a := d.length
    rw [List.length_map] at a
    rw [a]
    exact Nat.le_trans (hq _ (.head _)) (by decide)
end
section
theorem fresh47 : True := by w_top off; trivial
open LCg

local macro_rules | `(tactic| walk_at "AtSrc") => `(tactic| (k_here; refine halt ?_))
local macro_rules | `(tactic| walk_at "subscriptTail") => `(tactic| (k_here; (with_reducible show wpAny _ _ (subscriptTail _ _ (Value.ref _) (Value.ref _)) _ _ _); refine halt ?_))
local macro_rules | `(tactic| walk_at "eval Name") => `(tactic| (k_here; k_dflt (refine' nameX_L ?F ?v ?_ ?a ?b; (case F => k_asm); (case a => rfl); (case b => rfl); (case v => first | rfl | assumption); k_whole)))
local macro_rules | `(tactic| walk_at "call builtin:sorted") => `(tactic| (k_here; refine halt ?_))
theorem haltAt {M : Model} {A : Around} {n : Addr} {vs : List Value} {Q E : Value → Shared → Prop} {s : Shared} (_ : n ∈ ([165, 180, 41, 34, 29, 118] : List Nat)) (h : Halt (wpAny M A (PySem.call (Value.ref n) vs) Q E s)) : wpAny M A (PySem.call (Value.ref n) vs) Q E s := h
local macro_rules | `(tactic| walk_at "call ref") => `(tactic| (k_here; (with_reducible refine haltAt (by decide) ?_)))
local macro_rules | `(tactic| walk_at "call ref") => `(tactic| (k_here; (with_reducible show wpAny _ _ (PySem.call (Value.ref 160) _) _ _ _); k_dflt (refine' draw_call ?U ?m ?ne ?ia ?s0 ?s1 ?m0 ?m1 ?l ?_; (case U => k_updF); (case m => k_mem); (case ne => assumption); (case ia => assumption); (case s0 => omega); (case s1 => omega); (case m0 => first | omega | exact pow_lo); (case m1 => first | omega | (exact Int.lt_of_le_of_lt (pow_hi (by omega)) (by decide))); (case l => assumption)); intro d9 tk9 t9 n9 h9 tk9' lo9 hi9 F9 N9; (try dsimp only at N9); (try walk_at "own fold")))
local macro_rules | `(tactic| k_updF) => `(tactic| first | (refine' UpdF.head ?a; (case a => walk_at "off")) | (refine' UpdF.tail ?a ?b; (case a => k_ne); (case b => k_updF)))
local macro_rules | `(tactic| walk_at "off") => `(tactic| first | assumption | (refine' off_cons ?o1 ?o2; (case o1 => (first | assumption | k_ne)); (case o2 => walk_at "off")))
structure TS where
  v : Value
  t : Tree
  X : List (Addr × Obj)
noncomputable abbrev headOf {h₀ h : Heap} {L a : Addr} {o : Obj} {X : List (Addr × Obj)} (_ : News h₀ L h ((a, o) :: X)) : Addr := a
theorem comp_push {h₀ h : Heap} {L I C D T pa : Addr} {oT oI oC po po' : Obj} {m : Str → Option Value} {s : Shared} {Z : List (Addr × Obj)} {zs : List Value} {tk : Nat} {y : Value} {rest : Value → List (Addr × Obj) → Prop} (F : Fr h₀ L h m) (N : News h₀ L h ((T, oT) :: (I, oI) :: (C, oC) :: (D, lst zs) :: (pa, po) :: Z))
    (hT : @LT.lt Nat _ I T ∧ @LT.lt Nat _ C T ∧ @LT.lt Nat _ D T ∧ @LT.lt Nat _ pa T ∧ AllLt T Z) (off : Off3 I C D ((pa, po') :: Z)) (r : rest y ((pa, po) :: (T, oT) :: Z)) : CompEnd h₀ L m s I oI C oC D (lst zs) (fun _ => True) rest y { s with heap := h, toks := tk } := by
  refine CompEnd.intro F N ((pa, po) :: (T, oT) :: Z) (fun q hq => ?_) ⟨off.1, ⟨Nat.ne_of_gt hT.1, Nat.ne_of_gt hT.2.1, Nat.ne_of_gt hT.2.2.1⟩, off.2⟩ trivial r
  revert q
  exact fa (.tail _ (.head _)) (fa (.tail _ (.tail _ (.head _))) (fa (.tail _ (.tail _ (.tail _ (.head _)))) (fa (.tail _ (.tail _ (.tail _ (.tail _ (.head _))))) (fa (.head _) fun q hq => .tail _ (.tail _ (.tail _ (.tail _ (.tail _ hq))))))))
local macro_rules | `(tactic| walk_at "call builtin:list.append") => `(tactic| (k_here; refine halt ?_))
local macro_rules | `(tactic| walk_at "call type:dict") => `(tactic| (k_here; refine halt ?_))
local macro_rules | `(tactic| walk_at "compareOp Eq ref ref") => `(tactic| (k_here; refine halt ?_))
structure LT where
  vs : List Value
  c : Nat
  qs : List (List (Int × Int))
  sp : Int
  t : Tok
  n : Nat
  X : List (Addr × Obj)
local macro_rules | `(tactic| walk_at "eval ListComp") => `(tactic| (k_here; (with_reducible show wpAny _ _ (PySem.eval (.ListComp (.Tuple _ _ _) [_] _ _) _) _ _ _); k_dflt (refine comp_eval (F₀ := by k_asm) (by with_unfolding_all rfl) (by decide) (by rfl) (by decide) (by rfl) ?_)))
local macro_rules | `(tactic| walk_at "eval ListComp") => `(tactic| (k_here; (with_reducible show wpAny _ _ (PySem.eval (.ListComp (.Tuple _ _ _) [_, _] _ _) _) _ _ _); refine halt ?_))
local macro_rules | `(tactic| walk_at "CompEnd") => `(tactic| (k_here; (with_reducible show CompEnd _ _ _ _ _ _ _ _ _ _ _ (fun _ nw => ∃ c', nw = _ ∧ _) _ _); refine halt ?_))
local macro_rules | `(tactic| walk_at "isTrue BoolOp") => `(tactic| (k_here; walk_at "own fold"))
local macro_rules | `(tactic| walk_at "eval Call") => `(tactic| (k_here; walk_at "own fold"))
local macro_rules | `(tactic| walk_at "isTrue Compare") => `(tactic| (k_here; walk_at "own fold"))
theorem menu_bd {d : Int} (h0 : 0 ≤ d) (h6 : d < 6) : -10 < ([10 ^ Int.toNat 6, 2, 1, 0, 3, 40] : List Int).getD d.toNat 0 ∧ ([10 ^ Int.toNat 6, 2, 1, 0, 3, 40] : List Int).getD d.toNat 0 < 10000000 := by
  have : d = 0 ∨ d = 1 ∨ d = 2 ∨ d = 3 ∨ d = 4 ∨ d = 5 := by omega
  rcases this with rfl | rfl | rfl | rfl | rfl | rfl <;> decide
noncomputable abbrev ltOf {a b : Int} (_ : a < b) : Int := a
noncomputable abbrev worldOf {a b c d e f g h} {w : World} (_ : Ground a b c d w e f g h) : World := w
noncomputable abbrev shOf {a b c d e f g h} {s : Shared} (_ : Ground a b c d e f g h s.heap) : Shared := s
theorem law_ok : PySem.Challenge.rw_rh0204_01.Holds := hd (by
  k_go0
  (all_goals try k_fold)
  k_steps
  unfold Halt
  with_reducible rename News _ _ _ _ => N1
  with_reducible rename Fr _ _ _ _ => F1
  rename_i D1 ws1 h1 hI1 hC1 hL1 l1 hk1 hk2 g1 hI8 hL8 pc h2 tk2 o1 pa h3 l2 h4 oc dc
  refine cps fun Pz kz => ?_
  obtain ⟨ns, hIn, hnl⟩ : ∃ ns, IntsAre ys ns ∧ ns.length ≤ 63 := ⟨_, hI8, by rw [List.length_map, List.length_take]; omega⟩
  with_reducible rename Ground _ _ _ _ _ _ _ _ _ => G
  obtain ⟨s1, hs1⟩ : ∃ s, s = shOf G := ⟨_, rfl⟩
  dsimp only [shOf] at hs1
  subst hs1
  obtain ⟨w, hw1⟩ : ∃ s, s = worldOf G := ⟨_, rfl⟩
  dsimp only [worldOf] at hw1
  subst hw1
  refine kz ?_
  clear kz Pz
  have hpc : @Ne Nat pa pc := Nat.ne_of_gt l2.1
  have MR := fun news hoff => rows_con w pa pc ys ns 0 tk2 0 ys.length news hIn (by decide) (by decide) hnl hpc hoff
  k_dflt (refine' con_call (news := (pa, listOf #[.ref pc, .int 0 tk2] 0) :: (pc, listOf ys.toArray ys.length) :: [(D1, listOf ws1.toArray 0), (s1.heap.objs.size + 1, oc)]) ?B F1 ?X (fun q hq => N1 q ?hm) ?T (MR _ ?ho) ?hk ?hd ?hu ?_; (case B => k_asm); (case X => k_asm); (case T => k_asm); (case hk => first | exact rfl | assumption); (case hd => ktr_room); (case hu => ktr_units))
  case hm =>
    revert q; (repeat' (first | refine fa ?_ ?_ | refine fapp ?_ ?_)); all_goals first | k_mem | (intro q hq; k_mem)
  case ho =>
    refine fa ?_ fun q hq => ?_
    · exact Nat.ne_of_lt l2.2.1
    · rw [List.mem_singleton.mp hq]
      exact Nat.ne_of_lt l2.2.2
  intro r9 news9 h9 tk9 F9 N9 P9
  refine cps fun Pz kz => ?_
  obtain ⟨d, xs, ep, rs, sp, t', n', X9, rfl, rfl, ex9, hsp1, hsp2, lod, k9, nd9, rows9, hz9, hc9⟩ := P9
  refine kz ?_
  clear kz Pz
  clear N1 F1 MR
  k_steps
  unfold Halt
  with_reducible rename News _ _ _ _ => N12
  with_reducible rename Fr _ _ _ _ => F12
  refine cps fun Pz kz => ?_
  refine ap (A := ∀ (M : Str → Option Value) (x dx : Addr) (hb ht : Int) (tb tt t3 : Tok) (tp : Addr × Obj), (Fr _ s1.heap.objs.size _ M) → (M (Str.ofString "rows") = some (.ref d)) → (M (Str.ofString "tree") = some (.ref x)) → (News _ s1.heap.objs.size _ (tp :: (x, instObj 149 dx) :: (dx, dictOf (instD hb ht tb tt t3 .none) 2) :: (d, tabD PySem.Challenge.rw_rh0204_01.row.prog w xs ep) :: (pa, listOf #[.ref pc, .int sp t'] n') :: (pc, listOf ys.toArray ys.length) :: X9)) → (tp.2.cls = .type "tuple") → ((@LT.lt Nat _ d dx ∧ @LT.lt Nat _ pa dx ∧ @LT.lt Nat _ pc dx ∧ AllLt dx X9)) → Pz) ?_ (fun H => H _ _ _ _ _ _ _ _ _ F12 rfl rfl N12 rfl (by assumption))
  intro M0 x dx hb ht tb tt t3 tp F12 hM1 hM2 N12 hx1 hx2
  refine kz ?_
  clear kz Pz
  have hxd : @Ne Nat x dx := led_ne N12 (a := x) (b := dx) (.tail _ (.head _)) (.tail _ (.tail _ (.head _))) (fun e => nomatch e)
  have hxt : @Ne Nat tp.1 dx := led_ne N12 (a := tp.1) (b := dx) (o := tp.2) (.head _) (.tail _ (.tail _ (.head _))) (by rw [hx1]; intro e; exact absurd (Value.type.inj e) (by decide))
  have hrs9 := rows_keys rows9
  refine sorted_dict lod rfl (by assumption) N12 (.tail _ (.tail _ (.tail _ (.head _)))) (fun x hx => (k9 x hx).mono fun q hq => .tail _ (.tail _ (.tail _ (.tail _ (.tail _ (.tail _ hq)))))) nd9 (fun p hp => ?_) (by have := rows9.length; omega) fun LS cL hS tkS vsS psS FS NS ltS dS permS ascS => ?_
  · rw [← hrs9] at hp
    refine cps fun Pz kz => ?_
    obtain ⟨r, hr, rfl⟩ := List.mem_map.mp hp
    refine kz ?_
    clear kz Pz
    have := (hc9 r hr).1
    exact ⟨this.2.2.1, by have := this.2.2.2.1; omega⟩
  k_steps
  unfold Halt
  have hsl : vsS.length ≤ 5 := by
    have a1 := dS.length
    have a2 := permS.length_eq
    have a3 := rows9.length
    rw [List.length_map] at a1 a2
    omega
  have dS := dats_tup (Y := (LS, listOf vsS.toArray cL) :: tp :: (x, instObj 149 dx) :: (d, tabD PySem.Challenge.rw_rh0204_01.row.prog w xs ep) :: (pa, listOf #[.ref pc, .int sp t'] n') :: (pc, listOf ys.toArray ys.length) :: X9) (fun q hq ht => by
    revert q
    refine fa (fun _ => ?_) (fa (fun _ => ?_) (fa (fun ht => ?_) fun q hq _ => ?_))
    · exact .tail _ (.head _)
    · exact .tail _ (.tail _ (.head _))
    · obtain ⟨a, b, e⟩ := ht
      exact absurd (Value.type.inj (congrArg Obj.cls e)) (by decide)
    · exact .tail _ (.tail _ (.tail _ hq))) dS (noL_pds _)
  refine for_list (σ := TS) (fun _ => []) [] (fun e => (dx, dictOf (instD hb ht tb tt t3 e.v) 2) :: e.X)
    (fun i e => Ext ((LS, listOf vsS.toArray cL) :: tp :: (x, instObj 149 dx) :: (d, tabD PySem.Challenge.rw_rh0204_01.row.prog w xs ep) :: (pa, listOf #[.ref pc, .int sp t'] n') :: (pc, listOf ys.toArray ys.length) :: X9) e.X ∧ (∀ q ∈ e.X, @Ne Nat q.1 dx) ∧ WF e.t ∧ e.t.okW ∧ e.t.depth ≤ 2 * i ∧ DatIn e.X e.v e.t.dat ∧ e.t = treeAll (rowsOf rs (psS.take i)) .nil)
    ⟨.none, .nil, (LS, listOf vsS.toArray cL) :: tp :: (x, instObj 149 dx) :: (d, tabD PySem.Challenge.rw_rh0204_01.row.prog w xs ep) :: (pa, listOf #[.ref pc, .int sp t'] n') :: (pc, listOf ys.toArray ys.length) :: X9⟩ rfl (fun _ _ hj => .tail _ (hj.1.mem (.head _))) (by assumption) (by assumption) (fun q hq => ?_) (fun _ h => nomatch h) ⟨.refl _, ?_, trivial, trivial, by simp [Tree.depth], .none, rfl⟩ ⟨?_, ?_⟩
  · revert q
    exact fa (.tail _ (.tail _ (.tail _ (.head _)))) (fa (.head _) (fa (.tail _ (.head _)) (fa (.tail _ (.tail _ (.head _))) (fa (.tail _ (.tail _ (.tail _ (.tail _ (.head _))))) (fa (.tail _ (.tail _ (.tail _ (.tail _ (.tail _ (.head _)))))) (fa (.tail _ (.tail _ (.tail _ (.tail _ (.tail _ (.tail _ (.head _))))))) fun q hq => .tail _ (.tail _ (.tail _ (.tail _ (.tail _ (.tail _ (.tail _ hq))))))))))))
  · refine fa ?_ (fa ?_ (fa ?_ (fa ?_ (fa ?_ (fa ?_ fun q hq => ?_)))))
    · exact Nat.ne_of_gt (ltS (dx, dictOf (instD hb ht tb tt t3 .none) 2) (.tail _ (.tail _ (.head _))))
    · exact hxt
    · exact hxd
    · exact Nat.ne_of_lt hx2.1
    · exact Nat.ne_of_lt hx2.2.1
    · exact Nat.ne_of_lt hx2.2.2.1
    · exact Nat.ne_of_lt (allLt_to hx2.2.2.2 q hq)
  · rintro i v J9_2 u h tk own hi hv J0 hown hoc F13 N13
    refine cps fun Pz kz => ?_
    obtain ⟨tv, tr, X⟩ := J9_2
    refine an7 J0 fun j1 j2 j3 j4 j5 j6 j7 => ?_
    clear J0
    refine kz ?_
    clear kz Pz
    dsimp only at j1 j2 j3 j4 j5 j6 j7 hown N13 ⊢
    have hps := dS.length
    rw [List.length_map] at hps
    have hi' : i < psS.length := by omega
    refine cps fun Pz kz => ?_
    obtain ⟨v', e7, dv7⟩ := dS.get (k := i) (by rw [List.length_map]; exact hi')
    obtain rfl : v' = v := Option.some.inj (e7.symm.trans hv)
    refine kz ?_
    clear kz Pz
    rw [List.getElem_map] at dv7
    have htk : psS.take (i + 1) = psS.take i ++ [psS[i]] := List.take_succ_eq_append_getElem hi'
    have hpm : psS[i] ∈ rs.map (·.1) := by rw [hrs9]; exact permS.mem_iff.mp (List.getElem_mem hi')
    generalize psS[i] = pk at *
    refine cps fun Pz kz => ?_
    obtain ⟨a7, k7, t7, t8, rfl, hm7⟩ := pd_inv dv7
    obtain ⟨r, hr, rfl⟩ := List.mem_map.mp hpm
    obtain ⟨xv, hxv, dxv⟩ := rows_look rows9 nd9 hr
    obtain ⟨hcn, hok⟩ := hc9 r hr
    refine kz ?_
    clear kz Pz
    have dX : (d, tabD PySem.Challenge.rw_rh0204_01.row.prog w xs ep) ∈ X := j1.mem (.tail _ (.tail _ (.tail _ (.head _))))
    have xX : (x, instObj 149 dx) ∈ X := j1.mem (.tail _ (.tail _ (.head _)))
    have x9X : ∀ q ∈ X9, q ∈ X := fun q hq => j1.1 q (.tail _ (.tail _ (.tail _ (.tail _ (.tail _ (.tail _ hq))))))
    have T1 : Tab PySem.Challenge.rw_rh0204_01.row.prog w X d xs ep := ⟨lod, dX, fun x hx => (k9 x hx).mono x9X, nd9⟩
    iterate 12 walk1
    have dv8 : DatIn X (.ref a7) (pd r.1) := dv7.mono j1.1
    have dxv8 := (dat_tup (fun q hq _ => x9X q hq) dxv (noL_wo _))
    refine tab_tail (by assumption) T1 (fun q hq => .tail _ (List.mem_append_left _ hq)) dv8 (fun q hq => .tail _ (List.mem_append_left _ hq)) (by ktr_units) hxv fun tk9 => ?_
    k_steps
    unfold Halt
    have hoo : ∀ q ∈ own, @Ne Nat q.1 dx := fun q hq => hown q hq dx (.head _)
    have MP := mput_con w x dx hb ht tb tt t3 r.1.1 r.1.2 r.2.dat hcn.1 hcn.2.1 hcn.2.2.1 hcn.2.2.2.1 tr (X ++ own) tv (.ref a7) xv (wf_ok _ j3) (j6.mono fun q hq => List.mem_append_left _ hq) (dv8.mono fun q hq => List.mem_append_left _ hq) (dxv8.mono fun q hq => List.mem_append_left _ hq) hxd (fun q hq => (List.mem_append.mp hq).elim (j2 q) (hoo q))
    with_reducible rename Fr _ _ _ _ => F14
    k_dflt (refine' con_call (news := (dx, dictOf (instD hb ht tb tt t3 tv) 2) :: (x, instObj 149 dx) :: (X ++ own)) ?B2 F14 ?X2 (fun q hq => N13 q ?hm2) ?T2 MP ?hk2 ?hd2 ?hu2 ?_; (case B2 => k_asm); (case X2 => k_asm); (case T2 => k_asm); (case hk2 => first | exact rfl | assumption); (case hd2 => ktr_room); (case hu2 => ktr_units))
    case hm2 =>
      revert q
      refine fa ?_ (fa ?_ fun q hq => ?_)
      · exact .head _
      · exact .tail _ (List.mem_append_left _ xX)
      · exact .tail _ hq
    rintro r7 news7 h7 tk7 F7 N7 J9_6
    refine cps fun Pz kz => ?_
    obtain ⟨rfl, v7, Y, rfl, y1, y2, y3, y4, y5⟩ := J9_6
    refine kz ?_
    clear kz Pz
    k_steps
    classical
    have hXZ : Ext X (Y.filter fun q => decide (q ∈ X ∨ q.2.cls = .type "tuple")) := ⟨fun q hq => List.mem_filter.mpr ⟨y3 q (List.mem_append_left _ hq), decide_eq_true (.inl hq)⟩, fun q hq => of_decide_eq_true (List.mem_filter.mp hq).2⟩
    have hZY : ∀ q ∈ Y.filter (fun q => decide (q ∈ X ∨ q.2.cls = .type "tuple")), q ∈ Y := fun q hq => (List.mem_filter.mp hq).1
    have hTZ : ∀ q ∈ Y, IsTup q.2 → q ∈ Y.filter fun q => decide (q ∈ X ∨ q.2.cls = .type "tuple") := fun q hq ⟨a, b, e⟩ => List.mem_filter.mpr ⟨hq, decide_eq_true (.inr (by rw [e]))⟩
    generalize Y.filter (fun q => decide (q ∈ X ∨ q.2.cls = .type "tuple")) = Z at *
    have hkr : rowsOf rs (psS.take (i + 1)) = rowsOf rs (psS.take i) ++ [r] := by
      rw [htk]
      obtain ⟨r', hr', e1, e2⟩ := rowsOf_at (by rw [hrs9]; exact nd9) (List.mem_map.mpr ⟨r, hr, rfl⟩)
      show (psS.take i ++ [r.1]).map _ = _
      rw [List.map_append]
      have e3 : r' = r := by
        have a := rowAt_some (by rw [hrs9]; exact nd9) hr'
        have b := rowAt_some (by rw [hrs9]; exact nd9) hr
        rw [e1, b] at a
        exact (Option.some.inj a).symm
      rw [← e3, ← e2]
      rfl
    refine Aft.intro (TS.mk v7 (treePut r.1.1 r.1.2 r.2.dat tr) Z) (by assumption) (by assumption) (fun q hq => ?_) (fun q hq => .tail _ (y3 q (List.mem_append_right _ hq))) (fun p hp b hb => ?_) (fun _ h => nomatch h) (by walk_at "names stay") ⟨j1.trans hXZ, fun q hq => y1 q (hZY q hq), (put_spec (w := r.2.dat) hcn tr j3).1, treePut_okW tr j4, ?_, ?_, ?_⟩
    · revert q
      refine fa ?_ fun q hq => ?_
      · exact .head _
      · exact .tail _ (hZY q hq)
    · refine cps fun Pz kz => ?_
      obtain ⟨q, hq, rfl⟩ := List.mem_map.mp hb
      refine kz ?_
      clear kz Pz
      clear hb
      revert q
      refine fa ?_ fun q hq => ?_
      · exact hown p hp dx (.head _)
      · rcases hXZ.2 q hq with h | h
        · exact hown p hp q.1 (List.mem_map.mpr ⟨q, .tail _ h, rfl⟩)
        · intro e
          have h1 : (q.1, p.2) ∈ Y := by rw [← e]; exact y3 p (List.mem_append_right _ hp)
          have h2 := led_fn N7 (.tail _ (hZY q hq)) (.tail _ h1)
          exact hoc p hp (by rw [← h2]; exact h)
    · have := treePut_depth (x := r.1.1) (l := r.1.2) (w := r.2.dat) tr
      dsimp only
      omega
    · have dt : DatIn Y v7 (treePut r.1.1 r.1.2 r.2.dat tr).dat := y5
      exact dat_tup hTZ dt (noL_put (noL_wo _) tr (by rw [j7]; exact noL_all _ _ (by simp [Tree.dat, NoL])))
    · dsimp only
      rw [hkr, treeAll_snoc, j7]
  · rintro J9_0 u h tk J1 F13 N13
    refine cps fun Pz kz => ?_
    obtain ⟨tv, tr, X⟩ := J9_0
    refine an7 J1 fun j1 j2 j3 j4 j5 j6 j7 => ?_
    clear J1
    refine kz ?_
    clear kz Pz
    dsimp only at j1 j2 j3 j4 j5 j6 j7 F13 N13
    have hps := dS.length
    rw [List.length_map] at hps
    rw [hps, List.take_length] at j7
    rw [hps] at j5
    have hpl : psS.length ≤ 5 := by omega
    have hpm : ∀ p, p ∈ psS ↔ p ∈ rs.map (·.1) := fun p => by rw [hrs9]; exact permS.mem_iff
    have hlk : ∀ y, 0 ≤ y → y < 8 → lookGo y .none tr = hitD (lkR rs y) := fun y h0 h8 => by
      rw [j7]; exact look_rows (fun r hr => (hc9 r hr).1) (by rw [hrs9]; exact nd9) hpm (asc_nodup ascS) h0 h8
    k_steps
    unfold Halt
    with_reducible rename News _ _ _ _ => N14
    with_reducible rename Fr _ _ _ _ => F14
    with_reducible rename IsRange _ _ _ _ _ _ _ _ => hr
    have mpa := j1.mem (p := (pa, listOf #[.ref pc, .int sp t'] n')) (.tail _ (.tail _ (.tail _ (.tail _ (.head _)))))
    refine cps fun Pz kz => ?_
    obtain ⟨Y, NY, y1, y2, y3⟩ := led_front N14 (.tail _ mpa)
    have ydx := y2 _ (.head _) (Nat.ne_of_gt hx2.2.1)
    have yX : ∀ q ∈ X, @Ne Nat q.1 pa → q ∈ Y := fun q hq => y2 q (.tail _ hq)
    have yx := yX _ (j1.mem (.tail _ (.tail _ (.head _)))) (led_ne N14 (a := x) (b := pa) (.tail _ (j1.mem (.tail _ (.tail _ (.head _))))) (.tail _ mpa) (fun e => nomatch e))
    refine ap (A := ∀ (M : Str → Option Value), (Fr _ s1.heap.objs.size _ M) → (M (Str.ofString "rows") = some (.ref d)) → (M (Str.ofString "tree") = some (.ref x)) → Pz) ?_ (fun H => H _ F14 hM1 hM2)
    intro M1 F14 hM3 hM4
    refine kz ?_
    clear kz Pz
    refine for_range (σ := Mine.LS) (fun _ => []) [Str.ofString "address", Str.ofString "most", Str.ofString "ends", Str.ofString "least"] (fun e => (pa, listOf #[.ref pc, .int e.sp e.t] e.n) :: e.X)
      (fun i e => Ext Y e.X ∧ (∀ q ∈ e.X, @Ne Nat q.1 pa) ∧ 0 ≤ e.sp ∧ e.sp ≤ 40 + 2 * i) ⟨[], 0, sp, t', n', Y⟩ rfl hr (small_one (by omega) (by omega) (by omega) (by omega)) (rangeSize_nat _ _) (by assumption) NY (fun _ h => h) (fun _ h => nomatch h) ⟨.refl _, y1, hsp1, by dsimp only; omega⟩ ⟨?_, ?_⟩
    · rintro i iv e u h tk own hi J9_8 J2 hown hoc F15 N15
      refine cps fun Pz kz => ?_
      obtain ⟨ti, rfl⟩ := J9_8
      refine an4 J2 fun p1 p2 p3 p4 => ?_
      clear J2
      refine kz ?_
      clear kz Pz
      dsimp only at p1 p2 p3 p4 hown N15 ⊢
      have ho := off_own hown (.head _)
      have oXo : ∀ q ∈ e.X ++ own, q.1 ≠ pa := off_app p2 ho
      have pcX := p1.mem (y2 _ (.tail _ (j1.mem (.tail _ (.tail _ (.tail _ (.tail _ (.tail _ (.head _)))))))) (fun e => hpc e.symm))
      have ccX9 : (s1.heap.objs.size + 1, oc) ∈ X9 := ex9.mem (.tail _ (.head _))
      have ccX : (s1.heap.objs.size + 1, oc) ∈ e.X := p1.mem (yX _ (j1.mem (.tail _ (.tail _ (.tail _ (.tail _ (.tail _ (.tail _ ccX9))))))) (Nat.ne_of_lt l2.2.2))
      have hpc2 := hpc
      k_steps
      unfold Halt
      with_reducible rename News _ _ _ _ => N16
      with_reducible rename Fr _ _ _ _ => F16
      with_reducible rename (_ : Int) < 6 => hi6
      refine cps fun Pz kz => ?_
      obtain ⟨d6, hd6⟩ : ∃ s, s = ltOf hi6 := ⟨_, rfl⟩
      dsimp only [ltOf] at hd6
      subst hd6
      with_reducible rename (_ : Int) < 8 => hi8
      obtain ⟨y, hy⟩ : ∃ s, s = ltOf hi8 := ⟨_, rfl⟩
      dsimp only [ltOf] at hy
      subst hy
      refine kz ?_
      clear kz Pz
      have hmb := menu_bd (d := d6) (by assumption) hi6
      generalize ([10 ^ Int.toNat 6, 2, 1, 0, 3, 40] : List Int).getD d6.toNat 0 = most at *
      have tE : ∀ q ∈ X, IsTup q.2 → q ∈ e.X := fun q hq ht => p1.1 q (yX q hq (by
        obtain ⟨a, b, e⟩ := ht
        exact led_ne N14 (a := q.1) (o := q.2) (b := pa) (.tail _ hq) (.tail _ mpa) (by rw [e]; intro e; exact absurd (Value.type.inj e) (by decide))))
      have dtv : DatIn e.X tv tr.dat := dat_tup tE j6 (by rw [j7]; exact noL_all _ _ (by simp [Tree.dat, NoL]))
      have hnd : (rs.map (·.1)).Nodup := by rw [hrs9]; exact nd9
      obtain ⟨res0, D0⟩ := depth_ex (most := most) (lkR_one hnd) lkR_tab _ [y] [] 0 .nil (fun _ h => nomatch h) (Nat.le_refl _)
      have dX : (d, tabD PySem.Challenge.rw_rh0204_01.row.prog w xs ep) ∈ e.X := p1.mem (yX _ (j1.mem (.tail _ (.tail _ (.tail _ (.head _))))) (led_ne N14 (a := d) (b := pa) (.tail _ (j1.mem (.tail _ (.tail _ (.tail _ (.head _)))))) (.tail _ mpa) (by intro e; exact absurd (Value.type.inj e) (by decide))))
      have k9e : ∀ x ∈ xs, DatIn e.X (.ref x.2.1) (pd x.1) := fun x hx => dat_tup (fun q hq ht => p1.1 q (yX q (j1.1 q (.tail _ (.tail _ (.tail _ (.tail _ (.tail _ (.tail _ hq))))))) (by
        obtain ⟨a, b, e⟩ := ht
        exact led_ne N14 (a := q.1) (o := q.2) (b := pa) (.tail _ (j1.1 q (.tail _ (.tail _ (.tail _ (.tail _ (.tail _ (.tail _ hq)))))))) (.tail _ mpa) (by rw [e]; intro e; exact absurd (Value.type.inj e) (by decide))))) (k9 x hx) (by simp [NoL, NoLs])
      have T1 : Tab PySem.Challenge.rw_rh0204_01.row.prog w e.X d xs ep := ⟨lod, dX, k9e, nd9⟩
      have r9e : Paired (RowOk e.X) xs rs := paired_mono (fun x r hx => ⟨hx.1, dat_tup (fun q hq ht => p1.1 q (yX q (j1.1 q (.tail _ (.tail _ (.tail _ (.tail _ (.tail _ (.tail _ hq))))))) (by
        obtain ⟨a, b, e⟩ := ht
        exact led_ne N14 (a := q.1) (o := q.2) (b := pa) (.tail _ (j1.1 q (.tail _ (.tail _ (.tail _ (.tail _ (.tail _ (.tail _ hq)))))))) (.tail _ mpa) (by rw [e]; intro e; exact absurd (Value.type.inj e) (by decide))))) hx.2 (noL_wo _)⟩) rows9
      have MD := fun (a b : Int) (ta tb : Tok) (Z : List (Addr × Obj)) (hZ : ∀ q ∈ e.X, q ∈ Z) => due_con w d xs ep rs a b ta tb Z (T1.mono hZ) (paired_mono (fun x r hx => RowOk.mono (fun q hq _ => hZ q hq) hx) r9e) hz9 hc9
      k_dflt (refine' con_call ?B3 F16 ?X3 N16 ?T3 (MD _ _ _ _ _ ?sZ ?b0 ?b8 hmb.1 hmb.2) ?hk3 ?hd3 ?hu3 ?_; (case B3 => k_asm); (case X3 => k_asm); (case T3 => k_asm); (case sZ => walk_at "sub"); (case b0 => assumption); (case b8 => assumption); (case hk3 => first | exact rfl | assumption); (case hd3 => ktr_room); (case hu3 => ktr_units))
      rintro r17 news17 h17 tk17 F17 N17 J9_6
      refine cps fun Pz kz => ?_
      obtain ⟨ex17, es17, res17, d17, asc17, mem17, dep17⟩ := J9_6
      obtain ⟨b17, vs17, k17, rfl, hm17, da17⟩ := dat_tuple_inv d17
      refine kz ?_
      clear kz Pz
      cases da17 with
      | cons dv1 da17 =>
        cases da17 with
        | cons dv2 da17 =>
          cases da17
          refine cps fun Pz kz => ?_
          obtain ⟨b18, vs18, k18, rfl, hm18, da18⟩ := dat_tuple_inv dv1
          refine kz ?_
          clear kz Pz
          k_steps
          unfold Halt
          obtain rfl := dep17 _ D0
          clear dep17 MD
          have mx17 : ∀ q ∈ e.X, q ∈ news17 := fun q hq => ex17.1 q (.tail _ (.tail _ (.tail _ (List.mem_append_left _ hq))))
          have xX17 := mx17 _ (p1.mem yx)
          have dxX17 := mx17 _ (p1.mem ydx)
          with_reducible rename News _ _ _ _ => N19
          with_reducible rename Fr _ _ _ _ => F19
          have hlk2 : ∀ y p wo, lkR rs y = some (p, wo) → p ∈ rs.map (·.1) ∧ wo.ok := fun y p wo h => ⟨lkR_tab _ _ _ h, (hc9 _ (lkR_mem h)).2⟩
          have htab : (rs.map (·.1)).length ≤ 5 := by rw [List.length_map]; exact hz9
          have M41 := fun bm ta tm Z h1 h2 h3 h4 => depth_con w bm x dx hb ht tb tt t3 2 tr tv (lkR rs) (rs.map (·.1)) y most ta tm res0 Z (wf_ok _ j3) j4 h1 h2 h3 h4 hlk hlk2 htab (by assumption) hi8 hmb.1 hmb.2 D0
          k_dflt (refine' con_call ?B4 F19 ?X4 N19 ?T4 (M41 _ _ _ _ ?v4 ?b4 ?x4 ?dx4) ?hk4 ?hd4 ?hu4 ?_; (case B4 => k_asm); (case X4 => k_asm); (case T4 => k_asm); (case b4 => exact .head _); (case x4 => exact .tail _ xX17); (case dx4 => exact .tail _ dxX17); (case v4 => exact dtv.mono fun q hq => .tail _ (mx17 q hq)); (case hk4 => first | exact rfl | assumption); (case hd4 => ktr_room); (case hu4 => ktr_units))
          rintro r19 news19 h19 tk19 F20 N20 ⟨ex19, hr19⟩
          clear M41
          k_steps
          refine ne_resD hr19 dv2 ?_
          k_steps
          unfold Halt
          with_reducible rename News _ _ _ _ => N21
          with_reducible rename Fr _ _ _ _ => F21
          have mx19 : ∀ q ∈ news17, q ∈ news19 := fun q hq => ex19.1 q (.tail _ hq)
          have M34 := fun bm ta av tm Z h1 h2 h3 h4 h5 => con_up (d' := 17) (u' := 300) (hops_con w bm x dx hb ht tb tt t3 2 tr tv (lkR rs) (rs.map (·.1)) most tm (wf_ok _ j3) j4 hlk hlk2 htab hmb.1 hmb.2 (rs.map (·.1)).length y ta av [] Z h1 h2 h3 h4 (by assumption) hi8 h5 .nil (fun _ h => nomatch h) (Nat.zero_add _)) (by omega) (by omega)
          k_dflt (refine' con_call ?B5 F21 ?X5 N21 ?T5 (M34 _ _ _ _ _ ?v5 ?b5 ?x5 ?dx5 ?a5) ?hk5 ?hd5 ?hu5 ?_; (case B5 => k_asm); (case X5 => k_asm); (case T5 => k_asm); (case b5 => exact .tail _ (.head _)); (case x5 => exact .tail _ (.tail _ (mx19 _ xX17))); (case dx5 => exact .tail _ (.tail _ (mx19 _ dxX17))); (case v5 => exact dtv.mono fun q hq => .tail _ (.tail _ (mx19 q (mx17 q hq)))); (case a5 => exact .inl (.tuple (.head _) .nil)); (case hk5 => first | exact rfl | assumption); (case hd5 => ktr_room); (case hu5 => ktr_units))
          rintro r21 news21 h21 tk21 F22 N22 J9_6
          refine cps fun Pz kz => ?_
          obtain ⟨ex21, ps21, hp21, asc21, mem21⟩ := J9_6
          obtain rfl : ps21 = es17 := asc_eq asc21 asc17 fun p => (mem21 p).trans (mem17 p).symm
          refine kz ?_
          clear kz Pz
          have mx21 : ∀ q ∈ news19, q ∈ news21 := fun q hq => ex21.1 q (.tail _ (.tail _ hq))
          clear M34 hlk2 htab
          k_steps
          obtain ⟨nb, h22⟩ : ∃ n, s1.heap.get? 22 = some { cls := .type "tuple", data := .seq #[] n } := no_hops (by k_asm)
          refine ne_hops F22 N22 h22 hp21 (fun _ h => h) (.inl dv1) (fun q hq => mx21 q (mx19 q hq)) (by ktr_units) ?_
          k_steps
          obtain ⟨tq, nq, mp⟩ : ∃ t n, (pa, listOf #[.ref pc, .int (e.sp + 1 + 1) t] n) ∈ news21 := ⟨_, _, mx21 _ (mx19 _ (ex17.1 _ (.tail _ (.tail _ (.head _)))))⟩
          have mo : ∀ q ∈ own, q ∈ news21 := fun q hq => mx21 _ (mx19 _ (ex17.1 _ (.tail _ (.tail _ (.tail _ (List.mem_append_right _ hq))))))
          have me : ∀ q ∈ e.X, q ∈ news21 := fun q hq => mx21 _ (mx19 _ (mx17 q hq))
          classical
          have hXZ : Ext e.X (news21.filter fun q => decide (q ∈ e.X ∨ q.2.cls = .type "tuple")) := ⟨fun q hq => List.mem_filter.mpr ⟨me q hq, decide_eq_true (.inl hq)⟩, fun q hq => of_decide_eq_true (List.mem_filter.mp hq).2⟩
          have hZY : ∀ q ∈ news21.filter (fun q => decide (q ∈ e.X ∨ q.2.cls = .type "tuple")), q ∈ news21 := fun q hq => (List.mem_filter.mp hq).1
          generalize news21.filter (fun q => decide (q ∈ e.X ∨ q.2.cls = .type "tuple")) = Z at *
          refine Aft.intro (Mine.LS.mk [] 0 (e.sp + 1 + 1) tq nq Z) F22 N22 (fun q hq => ?_) mo (fun p hp b hb => ?_) (fun _ h => nomatch h) (by walk_at "names stay") ⟨p1.trans hXZ, fun q hq => ?_, by dsimp only; omega, by dsimp only; omega⟩
          · revert q
            refine fa ?_ fun q hq => ?_
            · exact mp
            · exact hZY q hq
          · refine cps fun Pz kz => ?_
            obtain ⟨q, hq, rfl⟩ := List.mem_map.mp hb
            refine kz ?_
            clear kz Pz hb
            revert q
            refine fa ?_ fun q hq => ?_
            · exact ho p hp
            · rcases hXZ.2 q hq with h | h
              · exact hown p hp q.1 (List.mem_map.mpr ⟨q, .tail _ h, rfl⟩)
              · intro e
                have h1 : (q.1, p.2) ∈ news21 := by rw [← e]; exact mo p hp
                have h2 := led_fn N22 (hZY q hq) h1
                exact hoc p hp (by rw [← h2]; exact h)
          · rcases hXZ.2 q hq with h | h
            · exact p2 q h
            · exact led_ne N22 (a := q.1) (o := q.2) (b := pa) (hZY q hq) mp (by rw [h]; intro e; exact absurd (Value.type.inj e) (by decide))
    · rintro e u h tk J3 F15 N15
      refine an4 J3 fun p1 p2 p3 p4 => ?_
      clear J3
      dsimp only at p1 p2 p3 p4 N15
      have ccX9 : (s1.heap.objs.size + 1, oc) ∈ X9 := ex9.mem (.tail _ (.head _))
      have ccX : (s1.heap.objs.size + 1, oc) ∈ e.X := p1.mem (yX _ (j1.mem (.tail _ (.tail _ (.tail _ (.tail _ (.tail _ (.tail _ ccX9))))))) (Nat.ne_of_lt l2.2.2))
      have pcX := p1.mem (y2 _ (.tail _ (j1.mem (.tail _ (.tail _ (.tail _ (.tail _ (.tail _ (.head _)))))))) (fun e => hpc e.symm))
      k_steps
      unfold Halt
      with_reducible rename News _ _ _ _ => N16
      with_reducible rename Fr _ _ _ _ => F16
      with_reducible rename IsRange _ _ _ _ _ _ _ _ => hr2
      refine cps fun Pz kz => ?_
      refine ap (A := ∀ (M : Str → Option Value) (ll : Addr), (Fr _ s1.heap.objs.size _ M) → (News _ s1.heap.objs.size _ ((ll, listOf #[] 0) :: (pa, listOf #[.ref pc, .int e.sp e.t] e.n) :: e.X)) → (M (Str.ofString "lots") = some (.ref ll)) → ((@LT.lt Nat _ pa ll ∧ AllLt ll e.X)) → Pz) ?_ (fun H => H _ _ F16 N16 rfl (by assumption))
      intro M2 ll F16 N16 hM5 hll
      refine kz ?_
      clear kz Pz
      refine for_range (σ := Mine.LT) (fun _ => []) [] (fun e => (ll, listOf e.vs.toArray e.c) :: (pa, listOf #[.ref pc, .int e.sp e.t] e.n) :: e.X)
        (fun i e' => Ext e.X e'.X ∧ (∀ q ∈ e'.X, @Ne Nat q.1 pa) ∧ (∀ q ∈ e'.X, @Ne Nat q.1 ll) ∧ 0 ≤ e'.sp ∧ e'.sp ≤ 50 + 10 * i ∧ Paired (fun v q => DatIn e'.X v (.tuple (q.map pd))) e'.vs e'.qs ∧ e'.vs.length = i ∧ ∀ q ∈ e'.qs, q.length ≤ 3 ∧ ∀ p ∈ q, 0 ≤ p.1 ∧ p.1 < 3 ∧ 0 ≤ p.2 ∧ p.2 < 3) ⟨[], 0, [], e.sp, e.t, e.n, e.X⟩ rfl hr2 (small_one (by omega) (by omega) (by omega) (by omega)) (rangeSize_nat _ _) F16 N16 (fun _ h => h) (fun _ h => nomatch h)
        ⟨.refl _, p2, fun q hq => Nat.ne_of_lt (allLt_to hll.2 q hq), p3, by dsimp only; omega, .nil, rfl, fun _ h => nomatch h⟩ ⟨?_, ?_⟩
      · rintro i iv g u h tk own hi J9_8 J4 hown hoc F17 N17
        refine cps fun Pz kz => ?_
        obtain ⟨ti, rfl⟩ := J9_8
        refine an8 J4 fun q1 q2 q3 q4 q5 q6 q7 q8 => ?_
        clear J4
        refine kz ?_
        clear kz Pz
        dsimp only at q1 q2 q3 q4 q5 q6 q7 q8 hown N17 ⊢
        have ho := off_own hown (.tail _ (.head _))
        have hol := off_own hown (.head _)
        have oXo : ∀ q ∈ g.X ++ own, q.1 ≠ pa := off_app q2 ho
        have hlp : @Ne Nat ll pa := Nat.ne_of_gt hll.1
        have pcX2 := q1.mem pcX
        have ccX2 := q1.mem ccX
        have hpc2 := hpc
        k_steps
        unfold Halt
        with_reducible rename News _ _ _ _ => N18
        with_reducible rename Fr _ _ _ _ => F18
        with_reducible rename IsRange _ _ _ _ _ _ _ _ => hr3
        with_reducible rename (_ : Int) < 4 => hi4
        with_reducible rename 0 ≤ (_ : Int) => lo4
        refine cps fun Pz kz => ?_
        obtain ⟨d4, hd4⟩ : ∃ s, s = ltOf hi4 := ⟨_, rfl⟩
        dsimp only [ltOf] at hd4
        subst hd4
        obtain ⟨Y2, NY2, w1, w2, w3⟩ := led_front N18 (.tail _ (.head _))
        refine kz ?_
        clear kz Pz
        have yll := w2 _ (.head _) hlp
        have yX2 : ∀ q ∈ g.X, q ∈ Y2 := fun q hq => w2 q (.tail _ (.tail _ (List.mem_append_left _ hq))) (q2 q hq)
        have yo2 : ∀ q ∈ own, q ∈ Y2 := fun q hq => w2 q (.tail _ (.tail _ (List.mem_append_right _ hq))) (ho q hq)
        have pcY := yX2 _ pcX2
        have ccY := yX2 _ ccX2
        refine AtSrc.intro (σ := Int × Tok × Nat × List (Addr × Obj)) (fun e' => (pa, listOf #[.ref pc, .int e'.1 e'.2.1] e'.2.2.1) :: e'.2.2.2) (fun j zs e' => Ext Y2 e'.2.2.2 ∧ (∀ q ∈ e'.2.2.2, @Ne Nat q.1 pa) ∧ g.sp + 1 ≤ e'.1 ∧ e'.1 ≤ g.sp + 1 + 2 * j ∧ zs.length = j ∧ ∃ ps : List (Int × Int), DatAll e'.2.2.2 zs (ps.map pd) ∧ ∀ p ∈ ps, 0 ≤ p.1 ∧ p.1 < 3 ∧ 0 ≤ p.2 ∧ p.2 < 3) ⟨g.sp + 1, _, _, Y2⟩
          F18 NY2 (fun _ h => h) (srcRange (n := d4.toNat) rfl hr3 (small_one (by omega) (by omega) (by omega) (by omega)) (by rw [rangeSize_nat, Int.sub_zero]) (by omega)) (fun _ _ _ _ => trivial) ⟨.refl _, w1, by dsimp only; omega, by dsimp only; omega, rfl, [], .nil, (fun _ h => nomatch h)⟩ ?_ ?_
        · rintro j v zs J9_3 I oI C oC D2 m₂ h tk E' hj J9_14 J9_15 hC hx hI F8 N8 off
          refine cps fun Pz kz => ?_
          obtain ⟨sp2, tq, nq, Z⟩ := J9_3
          obtain ⟨tv2, rfl⟩ := J9_14
          obtain ⟨r1, r2, r3, r4, r5, ps, r6, r7⟩ := J9_15
          refine kz ?_
          clear kz Pz
          dsimp only at r1 r2 r3 r4 r5 r6 N8 off
          rintro J9_0
          refine cps fun Pz kz => ?_
          obtain ⟨ne1, ne2, ne3⟩ := J9_0
          obtain ⟨⟨n1, n2, n3⟩, offZ⟩ := id off
          refine kz ?_
          clear kz Pz
          have pcZ := r1.mem pcY
          have ccZ := r1.mem ccY
          unfold testsC
          refine wpAny_tests_nil ?_
          rw [if_pos rfl]
          k_steps
          unfold Halt
          refine comp_push (by assumption) (by assumption) (by assumption) off ⟨(sp2 + 1 + 1, _, _, _), rfl, r1.trans ⟨fun q hq => .tail _ hq, fun q hq => ?_⟩, fun q hq => ?_, ?_, ?_, ?_, ?_⟩
          · revert q
            refine fa ?_ fun q hq => ?_
            · exact .inr rfl
            · exact .inl hq
          · revert q
            refine fa ?_ fun q hq => ?_
            · k_ne
            · exact r2 q hq
          · dsimp only; omega
          · dsimp only; omega
          · rw [List.length_append, List.length_singleton, r5]
          · exact ⟨ps ++ [(_, _)], by rw [List.map_append]; exact (r6.mono fun q hq => .tail _ hq).append (.one (.tuple (.head _) (.cons (.int _ _) (.cons (.int _ _) .nil)))), fun p hp => by
              revert p
              refine fapp (fun p hp => ?_) fun p hp => ?_
              · exact r7 p hp
              · rw [List.mem_singleton.mp hp]; exact ⟨by assumption, by assumption, by assumption, by assumption⟩⟩
        · rintro zs J9_1 J9_2 D2 h tk F8 N8 off
          refine cps fun Pz kz => ?_
          obtain ⟨sp2, tq, nq, Z⟩ := J9_1
          obtain ⟨r1, r2, r3, r4, r5, ps, r6, r7⟩ := J9_2
          refine kz ?_
          clear kz Pz
          dsimp only at r1 r2 r3 r4 r5 r6 N8 off
          k_steps
          unfold Halt
          with_reducible rename News _ _ _ _ => N20
          with_reducible rename Fr _ _ _ _ => F20
          refine cps fun Pz kz => ?_
          obtain ⟨T, hT⟩ : ∃ s, s = headOf N20 := ⟨_, rfl⟩
          dsimp only [headOf] at hT
          subst hT
          have pss := r6.length
          rw [List.length_map] at pss
          have mll : (ll, listOf g.vs.toArray g.c) ∈ Z := r1.mem yll
          obtain ⟨W, NW, v1, v2, v3⟩ := led_front N20 (.tail _ (.tail _ (.tail _ mll)))
          refine kz ?_
          clear kz Pz
          refine append_at' W F20 N20 (.tail _ (.tail _ (.tail _ mll))) v3 v1 (by omega) fun hA nA FA NA => ?_
          k_steps
          have mT := v2 _ (.head _) (led_ne N20 (.head _) (.tail _ (.tail _ (.tail _ mll))) (by intro e; exact absurd (Value.type.inj e) (by decide)))
          have mpa := v2 _ (.tail _ (.tail _ (.head _))) (fun e => hlp e.symm)
          have mX : ∀ q ∈ g.X, q ∈ W := fun q hq => v2 q (.tail _ (.tail _ (.tail _ (r1.mem (yX2 q hq))))) (q3 q hq)
          have mo : ∀ q ∈ own, q ∈ W := fun q hq => v2 q (.tail _ (.tail _ (.tail _ (r1.mem (yo2 q hq))))) (hol q hq)
          classical
          have hXZ : Ext g.X (W.filter fun q => decide (q ∈ g.X ∨ q.2.cls = .type "tuple")) := ⟨fun q hq => List.mem_filter.mpr ⟨mX q hq, decide_eq_true (.inl hq)⟩, fun q hq => of_decide_eq_true (List.mem_filter.mp hq).2⟩
          have hZY : ∀ q ∈ W.filter (fun q => decide (q ∈ g.X ∨ q.2.cls = .type "tuple")), q ∈ W := fun q hq => (List.mem_filter.mp hq).1
          have hTZ : ∀ q ∈ W, IsTup q.2 → q ∈ W.filter fun q => decide (q ∈ g.X ∨ q.2.cls = .type "tuple") := fun q hq ⟨a, b, e⟩ => List.mem_filter.mpr ⟨hq, decide_eq_true (.inr (by rw [e]))⟩
          generalize W.filter (fun q => decide (q ∈ g.X ∨ q.2.cls = .type "tuple")) = X3 at *
          have tupW : ∀ q ∈ Z, IsTup q.2 → q ∈ W := fun q hq ht => v2 q (.tail _ (.tail _ (.tail _ hq))) (by
            obtain ⟨a, b, e⟩ := ht
            exact led_ne N20 (a := q.1) (o := q.2) (b := ll) (.tail _ (.tail _ (.tail _ hq))) (.tail _ (.tail _ (.tail _ mll))) (by rw [e]; intro e; exact absurd (Value.type.inj e) (by decide)))
          have dps := dats_tup (fun q hq ht => hTZ q (tupW q hq ht) ht) r6 (noL_pds ps)
          refine Aft.intro (LT.mk (g.vs ++ [.ref T]) nA (g.qs ++ [ps]) sp2 tq nq X3) FA NA (fun q hq => ?_) (fun q hq => .tail _ (mo q hq)) (fun p hp b hb => ?_) (fun _ h => nomatch h) (by walk_at "names stay") ⟨q1.trans hXZ, fun q hq => ?_, fun q hq => v1 q (hZY q hq), by dsimp only; omega, by dsimp only; omega, ?_, by dsimp only; rw [List.length_append, List.length_singleton, q7], fun q hq => ?_⟩
          · revert q
            refine fa ?_ (fa ?_ fun q hq => ?_)
            · exact .head _
            · exact .tail _ mpa
            · exact .tail _ (hZY q hq)
          · refine cps fun Pz kz => ?_
            obtain ⟨q, hq, rfl⟩ := List.mem_map.mp hb
            refine kz ?_
            clear kz Pz hb
            revert q
            refine fa ?_ (fa ?_ fun q hq => ?_)
            · exact hol p hp
            · exact ho p hp
            · rcases hXZ.2 q hq with h | h
              · exact hown p hp q.1 (List.mem_map.mpr ⟨q, .tail _ (.tail _ h), rfl⟩)
              · intro e
                have h1 : (q.1, p.2) ∈ W := by rw [← e]; exact mo p hp
                have h2 := led_fn NA (.tail _ (hZY q hq)) (.tail _ h1)
                exact hoc p hp (by rw [← h2]; exact h)
          · rcases hXZ.2 q hq with h | h
            · exact q2 q h
            · exact led_ne NA (a := q.1) (o := q.2) (b := pa) (.tail _ (hZY q hq)) (.tail _ mpa) (by rw [h]; intro e; exact absurd (Value.type.inj e) (by decide))
          · exact (paired_mn (fun v q h => dat_tup (fun q hq ht => hXZ.1 q hq) h (by rw [NoL]; exact noL_pds _)) q6).snoc (.tuple (hTZ _ mT ⟨_, _, rfl⟩) dps)
          · revert q
            refine fapp (fun q hq => ?_) fun q hq => ?_
            · exact q8 q hq
            · rw [List.mem_singleton.mp hq]; exact ⟨by omega, r7⟩
      · rintro g u h tk J5 F17 N17
        refine an8 J5 fun q1 q2 q3 q4 q5 q6 q7 q8 => ?_
        clear J5
        dsimp only at q1 q2 q3 q4 q5 q6 q7 q8 N17
        k_steps
        unfold Halt
        have q9 := q6.length
        have q10 := sum_le3 (fun q hq => (q8 q hq).1)
        have M29 := merged_con2 w ll g.c g.vs g.qs ((ll, listOf g.vs.toArray g.c) :: (pa, listOf #[.ref pc, .int g.sp g.t] g.n) :: g.X) (.head _) q9 (fun i v q e1 e2 => .inl ((paired_get q6 i v q e1 e2).mono fun q hq => .tail _ (.tail _ hq))) (fun q hq p hp => ⟨((q8 q hq).2 p hp).2.2.1, by have := ((q8 q hq).2 p hp).2.2.2; omega⟩) (by omega) (by omega)
        with_reducible rename News _ _ _ _ => N18
        with_reducible rename Fr _ _ _ _ => F18
        k_dflt (refine' con_call ?B6 F18 ?X6 N18 ?T6 M29 ?hk6 ?hd6 ?hu6 ?_; (case B6 => k_asm); (case X6 => k_asm); (case T6 => k_asm); (case hk6 => first | exact rfl | assumption); (case hd6 => ktr_room); (case hu6 => ktr_units))
        rintro r23 news23 h23 tk23 F23 N23 J9_6
        refine cps fun Pz kz => ?_
        obtain ⟨ex23, ps23, d23, asc23, mem23⟩ := J9_6
        refine kz ?_
        clear kz Pz
        have hM6 := hM5
        have mll23 := ex23.1 _ (.head _)
        have mX23 : ∀ q ∈ g.X, q ∈ news23 := fun q hq => ex23.1 q (.tail _ (.tail _ hq))
        clear M29
        k_steps
        unfold Halt
        refine two_eval F23 rfl (by with_unfolding_all rfl) (by decide) (by rfl) (by decide) (by rfl) (by rfl) (by decide) (by decide) ?_
        walk1
        obtain ⟨uss, t1, t2⟩ := uss_of (paired_mn (fun v q h => DatIn.mono mX23 h) q6)
        have t3 := dats_flat t2
        refine ⟨ll, g.c, g.vs, uss, news23, rfl, F23, N23, mll23, t1, by omega, uss_len t2 (fun q hq => (q8 q hq).1), fun zs Y3 exY pmk => ?_⟩
        intro D h tk F24 N24 off24
        have pp := marked_pairs pmk (t3.mono exY.1)
        have hfl : ∀ p, p ∈ g.qs.flatten ↔ ∃ q ∈ g.qs, p ∈ q := fun p => List.mem_flatten
        have hfb : ∀ p ∈ g.qs.flatten, 0 ≤ p.2 ∧ p.2 < 100 := fun p hp => by
          obtain ⟨q, hq, hp⟩ := (hfl p).mp hp
          have := (q8 q hq).2 p hp
          exact ⟨this.2.2.1, by omega⟩
        have hfn : g.qs.flatten.length ≤ 6 := by rw [List.length_flatten]; omega
        k_steps
        unfold Halt
        refine dict_pairs rfl (by ktr_units) F24 N24 (modules_low (Top.nolimit (by k_asm))) (.head _) (pp.mono fun q hq => .tail _ hq) (by rw [List.length_map]; omega) fun D1 h6 tk6 xs1 ep1 F25 N25 lo1 lt1 k1 nd1 e1 => ?_
        have hkeys : ∀ q, q ∈ xs1.map (·.1) ↔ q ∈ g.qs.flatten := fun q => by
          have e2 : xs1.map (·.1) = (xs1.map kvR).map (·.1) := by rw [List.map_map]; rfl
          rw [e2, e1, fold_keys]
          generalize g.qs.flatten = fl
          simp
        have hx1 : xs1.length ≤ 6 := by
          have := len_sub (xs1.map (·.1)) g.qs.flatten nd1 fun q hq => (hkeys q).mp hq
          rw [List.length_map] at this
          omega
        k_steps
        unfold Halt
        refine sorted_dict lo1 rfl F25 N25 (.head _) (fun x hx => (k1 x hx).mono fun q hq => .tail _ hq) nd1 (fun p hp => hfb p ((hkeys p).mp hp)) (by omega) fun D2 c2 h7' tk7 vs2 ps2 F26 N26 lt2 d2 perm2 asc2 => ?_
        obtain rfl : ps2 = ps23 := asc_eq asc2 asc23 fun p => by rw [perm2.mem_iff, hkeys, hfl, mem23]
        have vsl : vs2.length ≤ 6 := by
          have a1 := d2.length
          have a2 := perm2.length_eq
          rw [List.length_map] at a1 a2
          omega
        k_steps
        with_reducible rename News _ _ _ _ => N27
        with_reducible rename Fr _ _ _ _ => F27
        obtain ⟨nb, h22⟩ : ∃ n, s1.heap.get? 22 = some { cls := .type "tuple", data := .seq #[] n } := no_hops (by k_asm)
        refine eq_hops F27 N27 h22 (.inl d23) (fun q hq => .tail _ (.tail _ (.tail _ (.tail _ (exY.1 q hq))))) (.inl (.tuple (.head _) (d2.mono fun q hq => .tail _ (.tail _ hq)))) (fun _ h => h) (by ktr_units) ?_
        k_steps)
end
end
end
end
end Mine

theorem PySem.Challenge.cw_rh0204_01_holds : PySem.Challenge.rw_rh0204_01.Holds :=
  Mine.law_ok
