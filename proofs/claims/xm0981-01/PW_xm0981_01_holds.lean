import PyProof.Rows.All
import Wide.All
import OpenK.AllK
import Wide.FinOn
import Lean
import PySem.Challenge.RW_xm0981_01
open PySem PySem.W PyProof.Rows
set_option Elab.async false
set_option maxRecDepth 100000
set_option linter.all false
namespace Mine
section
local macro_rules | `(tactic| k_mem) => `(tactic| k_extra "k_mem")
local macro_rules | `(tactic| k_mem) => `(tactic| assumption)
local macro_rules | `(tactic| k_mem) => `(tactic| (refine List.mem_append.mpr ?_; first | (refine Or.inl ?_; k_mem) | (refine Or.inr ?_; k_mem)))
local macro_rules | `(tactic| walk_at $s:str) => `(tactic| k_extra $s)
local macro_rules | `(tactic| k_lt $h:ident) => `(tactic| (replace $h := allLt_of $h; dsimp only [AllLt] at $h:ident))
local macro_rules | `(tactic| k_ne) => `(tactic| k_extra "k_ne")
section
set_option linter.unusedVariables false in
theorem pre {A B C G : Prop} (hl : A) (hw : B) (hc : C) (main : G) : G := main
set_option maxHeartbeats 0 in
theorem hd : False → PySem.Challenge.rw_xm0981_01.row.wellSaid = true → PySem.Challenge.rw_xm0981_01.row.Holds := by
  intro no said
  apply pre
  case main => k_head
  all_goals exact no.elim
set_option maxHeartbeats 0 in
theorem adrs_ok : ∀ P, ([2, 3, 15, 17, 18, 20, 21, 22, 23, 25, 26, 28, 29, 30, 32, 33, 35, 36, 37, 39, 40, 42, 43, 44, 46, 47, 49, 50, 51, 53, 54, 56, 57, 58, 60, 61, 63, 64, 65, 67, 68, 70, 71, 72, 75, 76, 77, 79, 80, 82, 83, 84, 87, 88, 89, 96, 98, 99, 101, 102, 103, 104, 105, 106, 109, 116, 117, 119, 120, 122, 123, 124, 125, 126, 129, 131, 132, 134, 135, 136, 138, 139, 141, 142, 150, 152, 153, 155, 156, 157, 160, 161, 162, 164, 165, 167, 168, 169, 171, 172, 174, 175, 176, 177, 178, 179, 180, 183, 185, 186, 188, 189, 190, 192, 193, 195, 196, 197, 199, 200, 202, 203, 204, 206, 207, 209, 210, 211, 214, 215, 216, 219, 220, 221, 224, 225, 226, 229, 230, 231, 233, 234, 236, 237, 238, 240, 241, 243, 244] : List Addr) = (hd.heap_1 P).map (·.1) := fun P => by kernel_rfl
set_option maxHeartbeats 0 in
theorem left : LeftO PySem.Challenge.rw_xm0981_01.row.prog hd.view_1 [Str.ofString "SettingError"] (fun s => xlAt hd.view_1 [] s && recOk (RowW.records PySem.Challenge.rw_xm0981_01.row.toRowW) s)
   (Hook.obs (kHook hd.heap_1 _ adrs_ok)) (Hook.val (kHook hd.heap_1 _ adrs_ok)) 3252 := by
  intro w
  first
  | (unfold openEnds fencedOpening topFrom
     rw [PySem.W.Fast.te4187177175401517315, PySem.W.Fast.te14082659384304107361, PySem.W.Fast.te14364793385576792824, PySem.W.Fast.te10274390034422433532, PySem.W.Fast.te1435165496053646825, PySem.W.Fast.te14289696077712309145]
     kernel_rfl)
  | kernel_rfl
set_option maxHeartbeats 0 in
theorem said : OpenLaw.wellSaid PySem.Challenge.rw_xm0981_01 = true := by
  first
  | (rw [PySem.W.Fast.te9446332074065402090]
     kernel_rfl)
  | kernel_rfl
set_option maxHeartbeats 0 in
theorem top {d : DefRec} {kwd : List (Str × Expr)} (hdef : defOf hd.view_1 PySem.Challenge.rw_xm0981_01.row.name = some (d, kwd)) (hp : PySem.Challenge.rw_xm0981_01.row.prog.theDef PySem.Challenge.rw_xm0981_01.row.name = some (d.params, d.body, d.scope)) (hk : kwWritten? d.params.kwonlyargs d.params.kw_defaults = some kwd)
   (call : WalkO hd.view_1 [Str.ofString "SettingError"] (XL hd.view_1 []) (kHook hd.heap_1 _ adrs_ok).says PySem.Challenge.rw_xm0981_01.row.toRowW d kwd fun f vs => PySem.call f vs) : PySem.Challenge.rw_xm0981_01.Holds := by
  refine holds_law said fun said => ?_
  refine holds_open (q := hd.view_1) (loose := [Str.ofString "SettingError"]) (Xt := fun s => xlAt hd.view_1 [] s && recOk (RowW.records PySem.Challenge.rw_xm0981_01.row.toRowW) s) (XP := XL hd.view_1 []) (Yf := Hook.obs (kHook hd.heap_1 _ adrs_ok)) (Ya := Hook.val (kHook hd.heap_1 _ adrs_ok)) (YP := Hook.says (kHook hd.heap_1 _ adrs_ok)) (N := 3252) left (Hook.of (kHook hd.heap_1 _ adrs_ok)) (Hook.keeps (kHook hd.heap_1 _ adrs_ok)) (fun s e => xl_of s (Bool.and_eq_true_iff.mp e).1) XL.keeps hdef hp hk (fun s e => recFacts_of (Bool.and_eq_true_iff.mp e).2) (by rfl) said (by decide +kernel) ⟨rfl, rfl, rfl, rfl, rfl, by decide +kernel⟩ ?hw call
  w_witness2
set_option maxHeartbeats 0 in
theorem names_ok : namesOk hd.view_1 (looseW hd.view_1 [Str.ofString "SettingError"]) (namesW hd.view_1 [Str.ofString "SettingError"]) = true := by decide +kernel
set_option maxHeartbeats 0 in
theorem imports_ok : importsNone hd.view_1 = true := by decide +kernel
end
section
abbrev Led := List (Addr × Obj)
abbrev VArr := Array Value
abbrev VList := List Value
abbrev AAddr := Addr
abbrev TTok := Tok
abbrev tupObj (vs : List Value) (n : Nat) : Obj := { cls := .type "tuple", data := .seq vs.toArray n }

noncomputable section
def Does (w : World) (D U : Nat) (f : Addr) (news : Led) (vs : List Value) (Post : Value → Led → Prop) : Prop :=
  ∀ (mean : ExcName → Option Value) (mg mb : Str → Option Value) (dp un : Nat) (gd : Option (List Code)) (cn : Str) (cs : Scope) (a : Addr) (ccd : Value) (cl : List (Str × Addr)) (outer : List Env) (A₀ : Around) (base h₀ : Heap) (L : Addr) (m : Str → Option Value) (s : Shared) (Q E : Value → Shared → Prop),
    Below A₀ base outer h₀ → Fr h₀ L s.heap m → (hd.heap_1 w.params).In h₀ → News h₀ L s.heap news → Top hd.view_1 (looseW hd.view_1 [Str.ofString "SettingError"]) mean mg mb h₀ → cs.kind = .function →
    dp + D < recursionLimit → un + U < cLine →
    (∀ r news' h' tk', Fr h₀ L h' m → News h₀ L h' news' → Post r news' → Q r { s with heap := h', toks := tk' }) →
    wpAny (model PySem.Challenge.rw_xm0981_01.row.prog w) (ktrTop dp un gd cn cs L a ccd cl outer) (call (.ref f) vs) Q E s
end
end
section
open PySem.Calls
def Stop (P : Prop) : Prop := P
theorem Stop.go {P : Prop} (h : Stop P) : P := h

def fr : List (Str × Value) → Str → Option Value
  | [] => fun _ => none
  | (x, v) :: l => fun y => if y = x then some v else fr l y
theorem lookup_fr (l : List (Str × Value)) : (fun y => List.lookup y l) = fr l := by
  funext y
  induction l with
  | nil => rfl
  | cons p l ih =>
    rw [List.lookup_cons]
    show _ = if y = p.1 then some p.2 else fr l y
    by_cases h : y = p.1
    · rw [if_pos h, h]; simp
    · rw [if_neg h, ← ih]
      have : (y == p.1) = false := by simpa using h
      rw [this]
theorem fr_entry {g h : Heap} {L : Addr} {l l' : List (Str × Value)} (F : Fr g L h fun y => List.lookup y l) (e : l = l') : Fr g L h (fr l') := by
  rw [lookup_fr, e] at F
  exact F
def agreeOn (m m' : Str → Option Value) : List Str → Prop
  | [] => True
  | k :: ks => m k = m' k ∧ agreeOn m m' ks
def noneOf (y : Str) : List Str → Prop
  | [] => True
  | k :: ks => ¬ y = k ∧ noneOf y ks
theorem agreeOn.at {m m' : Str → Option Value} : ∀ {ks : List Str} {y : Str}, agreeOn m m' ks → y ∈ ks → m y = m' y
  | _ :: _, _, h, .head _ => h.1
  | _ :: _, _, h, .tail _ hm => h.2.at hm
theorem noneOf_of : ∀ {ks : List Str} {y : Str}, y ∉ ks → noneOf y ks
  | [], _, _ => trivial
  | _ :: _, _, h => ⟨fun e => h (e ▸ .head _), noneOf_of fun hm => h (.tail _ hm)⟩
theorem fr_ext {m m' : Str → Option Value} (ks : List Str) (h1 : agreeOn m m' ks) (h2 : ∀ y, noneOf y ks → m y = m' y) : m = m' := by
  funext y
  by_cases hy : y ∈ ks
  · exact h1.at hy
  · exact h2 y (noneOf_of hy)

def WhEnd {σ : Type} (h₀ : Heap) (L : Addr) (s : Shared) (Le : σ → Led) (ps : σ → List (Str × Value)) (P : σ → Prop) (μ : σ → Nat) (c : σ) (s₂ : Shared) : Prop :=
  ∃ (c' : σ) (h' : Heap) (tk : Nat) (m' : Str → Option Value) (news' : Led), s₂ = { s with heap := h', toks := tk } ∧ Fr h₀ L h' m' ∧ News h₀ L h' news' ∧ m' = fr (ps c') ∧ (∀ p ∈ Le c', p ∈ news') ∧ P c' ∧ μ c' < μ c
def WhPost {σ : Type} (h₀ : Heap) (L : Addr) (s : Shared) (Le : σ → Led) (ps : σ → List (Str × Value)) (P : σ → Prop) (μ : σ → Nat) (Q : Flow → Shared → Prop) (c : σ) (f : Flow) (s₂ : Shared) : Prop :=
  match f with
  | .ret v => Q (.ret v) s₂
  | .brk => Q .next s₂
  | _ => Stop (WhEnd h₀ L s Le ps P μ c s₂)
theorem WhEnd.intro {σ : Type} {h₀ : Heap} {L : Addr} {s : Shared} {Le : σ → Led} {ps : σ → List (Str × Value)} {P : σ → Prop} {μ : σ → Nat} {c : σ} {h' : Heap} {tk : Nat} {m' : Str → Option Value} {news' : Led} (c' : σ)
    (F : Fr h₀ L h' m') (N : News h₀ L h' news') (hm : m' = fr (ps c')) (hn : ∀ p ∈ Le c', p ∈ news') (hp : P c') (hu : μ c' < μ c) : Stop (WhEnd h₀ L s Le ps P μ c { s with heap := h', toks := tk }) :=
  ⟨c', h', tk, m', news', rfl, F, N, hm, hn, hp, hu⟩
section
variable {prog : Program} {w : World} {A : Around} {E : Value → Shared → Prop} {Q : Flow → Shared → Prop} {s : Shared} {env : Env} {h₀ : Heap} {L : Addr}
theorem my_while {σ : Type} {test : Expr} {body : List Stmt} {pos : Pos} {m₀ : Str → Option Value} {news : Led} (Le : σ → Led) (ps : σ → List (Str × Value)) (P : σ → Prop) (μ : σ → Nat) (c₀ : σ)
    (F : Fr h₀ L s.heap m₀) (N : News h₀ L s.heap news) (hm : m₀ = fr (ps c₀)) (hn : ∀ p ∈ Le c₀, p ∈ news) (hp : P c₀)
    (turn : ∀ (c : σ) h tk, P c → Fr h₀ L h (fr (ps c)) → News h₀ L h (Le c) →
      wpAny (model prog w) A (isTrue test env (eval test env)) (fun b s₂ =>
        if b = true then wpAny (model prog w) A (execs body env) (WhPost h₀ L s Le ps P μ Q c) E s₂ else Q .next s₂) E { s with heap := h, toks := tk })
    (hE : PassesOwn (model prog w) A env E := by passes_own) :
    wpAny (model prog w) A (exec (.While test body [] pos) env) Q E s := by
  refine While_inv2 (fun n m nx => ∃ c : σ, nx = Le c ∧ μ c = n ∧ m = fr (ps c) ∧ P c) F (fun p hp => N p (hn p hp)) ⟨c₀, rfl, rfl, hm, hp⟩ ?_ hE
  rintro n m₁ nx h tk F₁ N₁ ⟨c, rfl, rfl, rfl, hp'⟩
  refine wpAny_mono (turn c h tk hp' F₁ N₁) (fun b s₂ p => ?_) fun _ _ x => x
  cases b with
  | false => simpa using p
  | true =>
    simp only [if_true] at p ⊢
    refine wpAny_mono p (fun f s₃ q => ?_) fun _ _ x => x
    have fin : WhEnd h₀ L s Le ps P μ c s₃ → WhileStep2 h₀ L s (fun n m nx => ∃ c : σ, nx = Le c ∧ μ c = n ∧ m = fr (ps c) ∧ P c) Q (μ c) .next s₃ := by
      rintro ⟨c', h', tk', m', news', rfl, F', N', hm', hn', hp9, hm9⟩
      exact ⟨h', tk', m', Le c', μ c', rfl, F', fun p hp => N' p (hn' p hp), hm9, c', rfl, rfl, hm', hp9⟩
    cases f with
    | ret v => exact q
    | brk => exact q
    | next => exact fin q
    | cont => exact fin q
end
end
section
open PySem.Calls
def FoEnd {σ : Type} (h₀ : Heap) (L : Addr) (s : Shared) (own : Addr × Obj) (Le : σ → Led) (ps : σ → List (Str × Value)) (P : Nat → σ → Prop) (i : Nat) (c : σ) (s₂ : Shared) : Prop :=
  ∃ (c' : σ) (h' : Heap) (tk : Nat) (m' : Str → Option Value) (news' : Led), s₂ = { s with heap := h', toks := tk } ∧ Fr h₀ L h' m' ∧ News h₀ L h' news' ∧ m' = fr (ps c') ∧ (∀ p ∈ Le c', p ∈ news') ∧ own ∈ news' ∧
    (∀ p ∈ Le c', (∃ q ∈ Le c, q.1 = p.1) ∨ own.1 < p.1) ∧ P (i + 1) c'
def FoPost {σ : Type} (h₀ : Heap) (L : Addr) (s : Shared) (own : Addr × Obj) (Le : σ → Led) (ps : σ → List (Str × Value)) (P : Nat → σ → Prop) (Q : Flow → Shared → Prop) (i : Nat) (c : σ) (f : Flow) (s₂ : Shared) : Prop :=
  match f with
  | .ret v => Q (.ret v) s₂
  | .brk => Q .next s₂
  | _ => Stop (FoEnd h₀ L s own Le ps P i c s₂)
theorem FoEnd.intro {σ : Type} {h₀ : Heap} {L : Addr} {s : Shared} {own : Addr × Obj} {Le : σ → Led} {ps : σ → List (Str × Value)} {P : Nat → σ → Prop} {i : Nat} {c : σ} {h' : Heap} {tk : Nat} {m' : Str → Option Value} {news' : Led} (c' : σ)
    (F : Fr h₀ L h' m') (N : News h₀ L h' news') (hm : m' = fr (ps c')) (hn : ∀ p ∈ Le c', p ∈ news') (ho : own ∈ news') (ha : ∀ p ∈ Le c', (∃ q ∈ Le c, q.1 = p.1) ∨ own.1 < p.1) (hp : P (i + 1) c') :
    Stop (FoEnd h₀ L s own Le ps P i c { s with heap := h', toks := tk }) := ⟨c', h', tk, m', news', rfl, F, N, hm, hn, ho, ha, hp⟩
section
variable {prog : Program} {w : World} {A : Around} {E : Value → Shared → Prop} {Q : Flow → Shared → Prop} {s : Shared} {env : Env} {h₀ : Heap}
theorem my_for_core {σ : Type} {target : Expr} {body : List Stmt} {I : Addr} {fp : List Addr} {n : Nat} {Pv : Nat → Value → Prop} {St : Nat → Heap → Prop} (W : Walks prog w A I fp [I] n Pv St)
    (hIo : ∀ i h, St i h → ∃ o, h.get? I = some o)
    (hgo : ∀ i (s' : Shared) v (Q' : Unit → Shared → Prop) (E' : Value → Shared → Prop), St i s'.heap → Q' () s' → wpAny (model prog w) A (letOwnedTupleGo target (.ref I) v) Q' E' s')
    (Le : σ → Led) (ps : σ → List (Str × Value)) (P : Nat → σ → Prop) (c₀ : σ)
    (hfp : ∀ b ∈ fp, b = I ∨ ∃ o, ∀ i c, P i c → (b, o) ∈ Le c)
    (hst : St 0 s.heap) (F : Fr h₀ env.locals s.heap (fr (ps c₀))) (N : News h₀ env.locals s.heap (Le c₀)) (hI0 : h₀.get? I = none) (hIL : I ≠ env.locals) (hoff : ∀ p ∈ Le c₀, p.1 ≠ I) (hp : P 0 c₀)
    (turn : ∀ i (c : σ) v oI h tk, i < n → Pv i v → P i c → (∀ p ∈ Le c, p.1 ≠ I) → Fr h₀ env.locals h (fr (ps c)) → News h₀ env.locals h ((I, oI) :: Le c) →
      wpAny (model prog w) A (assign target env v) (fun _ s₃ => wpAny (model prog w) A (execs body env) (FoPost h₀ env.locals { s with heap := h, toks := tk } (I, oI) Le ps P Q i c) E s₃) E { s with heap := h, toks := tk })
    (done : ∀ (c : σ) h tk, P n c → Fr h₀ env.locals h (fr (ps c)) → News h₀ env.locals h (Le c) → Q .next { s with heap := h, toks := tk })
    (hE : PassesOwn (model prog w) A env E) :
    codeAny (model prog w) A (.forLoop target (.ref I) body [] env) (fun r s' => match r with | .ok f => Q f s' | .error e => cameBackBy (model prog w) A env E e s') s := by
  have back : ∀ (e : Value) (s' : Shared), E e s' → notedBy (model prog w) A env (fun e s' => cameBackBy (model prog w) A env E e s') e s' := hE
  refine codeAny_forLoop_any (R := fun r s' => match r with | .ok f => Q f s' | .error e => cameBackBy (model prog w) A env E e s')
    (fun k s' => ∃ i c h' tk, s' = { s with heap := h', toks := tk } ∧ St i h' ∧ Fr h₀ env.locals h' (fr (ps c)) ∧ News h₀ env.locals h' (Le c) ∧ (∀ p ∈ Le c, p.1 ≠ I) ∧ P i c ∧ i ≤ n ∧ k = n + 1 - i) ?_ (n + 1)
    ⟨0, c₀, s.heap, s.toks, rfl, hst, F, N, hoff, hp, Nat.zero_le _, rfl⟩
  rintro k s' ⟨i, c, h', tk, rfl, hst', F', N', hoff', hp', hi, rfl⟩
  have next : ∀ h₁ : Heap, (∀ b o, b ∉ [I] → h'.get? b = some o → h₁.get? b = some o) → Fr h₀ env.locals h₁ (fr (ps c)) ∧ News h₀ env.locals h₁ (Le c) := fun h₁ hk => by
    refine ⟨⟨F'.ns.at' fun o e => hk _ o (by simpa using Ne.symm hIL) e, fun b o e => hk b o ?_ (F'.keep b o e), F'.above⟩, fun p hp => ⟨hk _ _ (by simpa using hoff' p hp) (N' p hp).1, (N' p hp).2⟩⟩
    intro hb
    rw [List.mem_singleton.mp hb, hI0] at e
    cases e
  by_cases hlt : i < n
  · refine W.item i _ _ _ hlt hst' fun v h₁ tk₁ hP hst₁ hk₁ => ?_
    obtain ⟨F₁, N₁⟩ := next h₁ hk₁
    obtain ⟨oI, hoI⟩ := hIo _ _ hst₁
    have N₂ : News h₀ env.locals h₁ ((I, oI) :: Le c) := fun p hp => by
      rcases List.mem_cons.mp hp with rfl | hp
      · exact ⟨hoI, hIL, hI0⟩
      · exact N₁ p hp
    refine hgo (i + 1) _ v _ _ hst₁ ?_
    refine wpAny_mono (turn i c v oI h₁ tk₁ hlt hP hp' hoff' F₁ N₂) (fun _ s₂ h₂ => wpAny_mono h₂ (fun f s₃ h₃ => ?_) back) back
    have fin : FoEnd h₀ env.locals { s with heap := h₁, toks := tk₁ } (I, oI) Le ps P i c s₃ → ∃ m, m < n + 1 - i ∧ ∃ i c h' tk, s₃ = { s with heap := h', toks := tk } ∧ St i h' ∧ Fr h₀ env.locals h' (fr (ps c)) ∧ News h₀ env.locals h' (Le c) ∧ (∀ p ∈ Le c, p.1 ≠ I) ∧ P i c ∧ i ≤ n ∧ m = n + 1 - i := by
      rintro ⟨c', h₃', tk₃, m', news', rfl, F₃, N₃, rfl, hn, ho, ha, hp₃⟩
      refine ⟨n + 1 - (i + 1), by omega, i + 1, c', h₃', tk₃, rfl, ?_, F₃, fun p hp => N₃ p (hn p hp), fun p hp => ?_, hp₃, hlt, rfl⟩
      · refine W.frame _ _ _ hst₁ fun b hb o e => ?_
        rcases hfp b hb with rfl | ⟨ob, hob⟩
        · rw [hoI] at e
          cases e
          exact (N₃ _ ho).1
        · have e1 : h₁.get? b = some ob := (N₁ _ (hob i c hp')).1
          rw [e1] at e
          cases e
          exact (N₃ _ (hn _ (hob (i + 1) c' hp₃))).1
      · rcases ha p hp with ⟨q, hq, e⟩ | hlt'
        · rw [← e]
          exact hoff' q hq
        · exact Nat.ne_of_gt hlt'
    cases f with
    | ret v => exact h₃
    | brk => exact h₃
    | cont => exact fin h₃
    | next => exact fin h₃
  · have hin : i = n := by omega
    subst hin
    refine W.done _ _ _ hst' fun h₁ tk₁ hk₁ => wpAny_execs_nil ?_
    obtain ⟨F₁, N₁⟩ := next h₁ hk₁
    exact done c h₁ tk₁ hp' F₁ N₁

theorem my_for_seq {σ : Type} {target : Expr} {body : List Stmt} {l : Addr} {ol : Obj} {vs : List Value} {k : Nat} {m₀ : Str → Option Value} {news : Led} (isL : ol.cls = .type "list" ∨ ol.cls = .type "tuple") (hd : ol.data = .seq vs.toArray k)
    (Le : σ → Led) (ps : σ → List (Str × Value)) (P : Nat → σ → Prop) (c₀ : σ) (hh : A.handled = none)
    (F : Fr h₀ env.locals s.heap m₀) (N : News h₀ env.locals s.heap news) (hm : m₀ = fr (ps c₀)) (hn : ∀ p ∈ Le c₀, p ∈ news) (hl : ∀ i c, P i c → (l, ol) ∈ Le c) (hp : P 0 c₀)
    (turn : ∀ i (c : σ) v I oI h tk, vs[i]? = some v → P i c → (∀ p ∈ Le c, p.1 ≠ I) → Fr h₀ env.locals h (fr (ps c)) → News h₀ env.locals h ((I, oI) :: Le c) →
      wpAny (model prog w) A (assign target env v) (fun _ s₃ => wpAny (model prog w) A (execs body env) (FoPost h₀ env.locals { s with heap := h, toks := tk } (I, oI) Le ps P Q i c) E s₃) E { s with heap := h, toks := tk })
    (done : ∀ (c : σ) h tk, P vs.length c → Fr h₀ env.locals h (fr (ps c)) → News h₀ env.locals h (Le c) → Q .next { s with heap := h, toks := tk })
    (hE : PassesOwn (model prog w) A env E := by passes_own) :
    wpAny (model prog w) A (pyIter (.ref l)) (fun it s₂ => codeAny (model prog w) A (.forLoop target it body [] env) (fun r s' => match r with | .ok f => Q f s' | .error e => cameBackBy (model prog w) A env E e s') s₂) E s := by
  subst hm
  have hlm := hn _ (hl 0 c₀ hp)
  have hol : s.heap.get? l = some ol := (N _ hlm).1
  have hne : l ≠ s.heap.objs.size := Nat.ne_of_lt (Heap.lt_size hol)
  have hI0 : h₀.get? s.heap.objs.size = none := next_is_new F
  have hIL : s.heap.objs.size ≠ env.locals := Nat.ne_of_gt F.ns.lt
  have hoff : ∀ p ∈ Le c₀, p.1 ≠ s.heap.objs.size := fun p hp => Nat.ne_of_lt (Heap.lt_size (N p (hn p hp)).1)
  rcases isL with hc | hc
  · have hls : s.heap.IsList l vs.toArray := ⟨ol, hol, hc, k, hd⟩
    refine wpAny_pyIter_list hls ?_
    have W := Walks.list (prog := prog) (w := w) hh s.heap.objs.size l hne vs.toArray
    rw [List.size_toArray] at W
    refine my_for_core (s := { s with heap := s.heap.push _ }) W (fun i h st => by obtain ⟨o, e, _⟩ := st.1; exact ⟨o, e⟩) (fun i s' v Q' E' st hq => letGo_listiter st.1 hq) Le ps P c₀ ?_ ⟨⟨_, Heap.get?_push_size _ rfl, rfl, rfl⟩, hls.push _⟩ (F.push _)
      (fun p hp => ⟨Heap.get?_push_of_some _ (N p (hn p hp)).1, (N p (hn p hp)).2⟩) hI0 hIL hoff hp (fun i c v oI h tk hi hv => turn i c v _ oI h tk (by simpa using hv)) done hE
    intro b hb
    rcases List.mem_cons.mp hb with rfl | hb
    · exact .inl rfl
    · rw [List.mem_singleton.mp hb]
      exact .inr ⟨ol, hl⟩
  · have hls : s.heap.IsTuple l vs.toArray := ⟨ol, hol, hc, k, hd⟩
    refine wpAny_pyIter_tuple hls ?_
    have W := Walks.tuple (prog := prog) (w := w) hh s.heap.objs.size l hne vs.toArray
    rw [List.size_toArray] at W
    refine my_for_core (s := { s with heap := s.heap.push _ }) W (fun i h st => by obtain ⟨o, e, _⟩ := st.1; exact ⟨o, e⟩) (fun i s' v Q' E' st hq => letGo_tupleiter st.1 hq) Le ps P c₀ ?_ ⟨⟨_, Heap.get?_push_size _ rfl, rfl, rfl⟩, hls.at fun o e => Heap.get?_push_of_some _ e⟩ (F.push _)
      (fun p hp => ⟨Heap.get?_push_of_some _ (N p (hn p hp)).1, (N p (hn p hp)).2⟩) hI0 hIL hoff hp (fun i c v oI h tk hi hv => turn i c v _ oI h tk (by simpa using hv)) done hE
    intro b hb
    rcases List.mem_cons.mp hb with rfl | hb
    · exact .inl rfl
    · rw [List.mem_singleton.mp hb]
      exact .inr ⟨ol, hl⟩

theorem my_for_range {σ : Type} {target : Expr} {body : List Stmt} {r : Addr} {a b : Int} {t u v : Tok} {n : Nat} {m₀ : Str → Option Value} {news : Led} (hr : IsRange s.heap r a b 1 t u v) (hsm : Builtin.Range.small a b 1 = true) (hsz : Builtin.Range.rangeSize a b 1 = (n : Int))
    (Le : σ → Led) (ps : σ → List (Str × Value)) (P : Nat → σ → Prop) (c₀ : σ) (hh : A.handled = none)
    (F : Fr h₀ env.locals s.heap m₀) (N : News h₀ env.locals s.heap news) (hm : m₀ = fr (ps c₀)) (hn : ∀ p ∈ Le c₀, p ∈ news) (hp : P 0 c₀)
    (turn : ∀ i (c : σ) tv I oI h tk, i < n → P i c → (∀ p ∈ Le c, p.1 ≠ I) → Fr h₀ env.locals h (fr (ps c)) → News h₀ env.locals h ((I, oI) :: Le c) →
      wpAny (model prog w) A (assign target env (.int (a + (i : Int)) tv)) (fun _ s₃ => wpAny (model prog w) A (execs body env) (FoPost h₀ env.locals { s with heap := h, toks := tk } (I, oI) Le ps P Q i c) E s₃) E { s with heap := h, toks := tk })
    (done : ∀ (c : σ) h tk, P n c → Fr h₀ env.locals h (fr (ps c)) → News h₀ env.locals h (Le c) → Q .next { s with heap := h, toks := tk })
    (hgo : ∀ v it, letOwnedTupleGo target it v = pure () := by intro _ _; rfl)
    (hE : PassesOwn (model prog w) A env E := by passes_own) :
    wpAny (model prog w) A (pyIter (.ref r)) (fun it s₂ => codeAny (model prog w) A (.forLoop target it body [] env) (fun r s' => match r with | .ok f => Q f s' | .error e => cameBackBy (model prog w) A env E e s') s₂) E s := by
  subst hm
  have hI0 : h₀.get? s.heap.objs.size = none := next_is_new F
  have hIL : s.heap.objs.size ≠ env.locals := Nat.ne_of_gt F.ns.lt
  have hoff : ∀ p ∈ Le c₀, p.1 ≠ s.heap.objs.size := fun p hp => Nat.ne_of_lt (Heap.lt_size (N p (hn p hp)).1)
  refine wpAny_pyIter_range hr hsm ?_
  have W := Walks.range (prog := prog) (w := w) hh s.heap.objs.size a 1 n
  refine my_for_core (s := { s with heap := s.heap.push _ }) W (fun i h st => ⟨_, st⟩) (fun i s' v Q' E' st hq => by rw [hgo]; exact wpAny_pure hq) Le ps P c₀ (fun b hb => .inl (List.mem_singleton.mp hb))
    (by show IsRangeIter _ _ _ _ _; rw [hsz]; simpa using Heap.get?_push_size _ rfl) (F.push _)
    (fun p hp => ⟨Heap.get?_push_of_some _ (N p (hn p hp)).1, (N p (hn p hp)).2⟩) hI0 hIL hoff hp (fun i c v oI h tk hi hv => ?_) done hE
  obtain ⟨tv, rfl⟩ := hv
  rw [Int.mul_one]
  exact turn i c tv _ oI h tk hi
end
end
section
open PySem.Calls
open PyProof.Rows.LCg
def CoEnd (h₀ : Heap) (L : Addr) (m : Str → Option Value) (s : Shared) (own cst pool : Led) (Pn : Led → Prop) (s₂ : Shared) : Prop :=
  ∃ (h' : Heap) (tk : Nat) (pool' : Led), s₂ = { s with heap := h', toks := tk } ∧ Fr h₀ L h' m ∧ News h₀ L h' (own ++ (pool' ++ cst)) ∧ (∀ p ∈ pool', (∃ q ∈ pool, q.1 = p.1) ∨ ∀ q ∈ own, q.1 < p.1) ∧ Pn pool'
theorem CoEnd.intro {h₀ : Heap} {L : Addr} {m : Str → Option Value} {s : Shared} {own cst pool : Led} {Pn : Led → Prop} {h' : Heap} {tk : Nat} {news' : Led} (pool' : Led)
    (F : Fr h₀ L h' m) (N : News h₀ L h' news') (hn : ∀ p ∈ own ++ (pool' ++ cst), p ∈ news') (ha : ∀ p ∈ pool', (∃ q ∈ pool, q.1 = p.1) ∨ ∀ q ∈ own, q.1 < p.1) (hp : Pn pool') :
    Stop (CoEnd h₀ L m s own cst pool Pn { s with heap := h', toks := tk }) := ⟨h', tk, pool', rfl, F, fun p hp => N p (hn p hp), ha, hp⟩
theorem CoEnd.same {h₀ : Heap} {L : Addr} {m : Str → Option Value} {s : Shared} {own cst pool : Led} {Pn : Led → Prop} {h' : Heap} {tk : Nat} {news' : Led}
    (F : Fr h₀ L h' m) (N : News h₀ L h' news') (hn : ∀ p ∈ own ++ (pool ++ cst), p ∈ news') (hp : Pn pool) :
    Stop (CoEnd h₀ L m s own cst pool Pn { s with heap := h', toks := tk }) := CoEnd.intro pool F N hn (fun p hp => .inl ⟨p, hp, rfl⟩) hp

section
variable {prog : Program} {w : World} {A : Around} {E : Value → Shared → Prop} {s : Shared} {env cenv : Env} {h₀ : Heap} {L : Addr} {m : Str → Option Value}
theorem co_loop {elt ct target iter : Expr} {scope : Scope} {pos : Pos} {R : Result → Shared → Prop} {I D : Addr} {fp : List Addr} {n : Nat} {Pv : Nat → Value → Prop} {St : Nat → Heap → Prop} (W : Walks prog w A I fp [I] n Pv St) (hsz : n ≤ sizeLine)
    (hIo : ∀ i h, St i h → ∃ o, h.get? I = some o)
    (hgo : ∀ i (s' : Shared) v (Q' : Unit → Shared → Prop) (E' : Value → Shared → Prop), St i s'.heap → Q' () s' → wpAny (model prog w) A (letOwnedTupleGo target (.ref I) v) Q' E' s')
    (Zany : Led → Prop) (Zat : Value → Led → Prop) (hZ : ∀ v X, Zat v X → Zany X) (P : Nat → List Value → Led → Prop) (cst X₀ : Led) (adX : List Addr) (hX : ∀ X, Zany X → X.map (·.1) = adX)
    (hfp : ∀ b ∈ fp, b = I ∨ ∃ o, (b, o) ∈ cst) (hIL : I ≠ L) (hI₀ : h₀.get? I = none) (hDL : D ≠ L) (hD₀ : h₀.get? D = none) (hID : I ≠ D) (hXL : ∀ a ∈ adX, a ≠ L ∧ h₀.get? a = none ∧ a ≠ I ∧ a ≠ D) (hcst : ∀ p ∈ cst, p.1 ≠ I ∧ p.1 ≠ D ∧ p.1 ∉ adX)
    (hst : St 0 s.heap) (F : Fr h₀ L s.heap m) (N : News h₀ L s.heap ((D, lst []) :: (X₀ ++ cst))) (hZ₀ : Zany X₀) (hp : P 0 [] [])
    (hasg : ∀ i v (s' : Shared) X (oI : Obj) ys pool (Q' : Unit → Shared → Prop) (E' : Value → Shared → Prop), Pv i v → Zany X → News h₀ L s'.heap ((I, oI) :: (D, lst ys) :: (X ++ (pool ++ cst))) →
      (∀ h' tk X', Zat v X' → (∀ b o, b ∉ adX → s'.heap.get? b = some o → h'.get? b = some o) → (∀ p ∈ X', h'.get? p.1 = some p.2) → Q' () { s' with heap := h', toks := tk }) → wpAny (model prog w) A (assign target cenv v) Q' E' s')
    (turn : ∀ i v ys pool X oI h tk (E' : Value → Shared → Prop), i < n → Pv i v → P i ys pool → Zat v X → (∀ p ∈ pool, ∀ q ∈ (I, oI) :: (D, lst ys) :: X, q.1 < p.1) → Fr h₀ L h m → News h₀ L h ((I, oI) :: (D, lst ys) :: (X ++ (pool ++ cst))) →
      wpAny (model prog w) A (isTrue ct cenv (eval ct cenv)) (fun ok s' => if ok = true then
        wpAny (model prog w) A (eval elt cenv) (fun y s'' => Stop (CoEnd h₀ L m { s with heap := h, toks := tk } ((I, oI) :: (D, lst ys) :: X) cst pool (P (i + 1) (ys ++ [y])) s'')) E' s'
        else Stop (CoEnd h₀ L m { s with heap := h, toks := tk } ((I, oI) :: (D, lst ys) :: X) cst pool (P (i + 1) ys) s')) E' { s with heap := h, toks := tk })
    (done : ∀ ys pool X h tk, P n ys pool → Zany X → Fr h₀ L h m → News h₀ L h ((D, lst ys) :: (X ++ (pool ++ cst))) → (∀ p ∈ pool, D < p.1 ∧ ∀ a ∈ adX, a < p.1) → R (.ok .next) { s with heap := h, toks := tk }) :
    codeAny (model prog w) A (.compLoop (.ListComp elt [⟨target, iter, [ct], 0⟩] scope pos) 0 (.ref I) (.ref D) cenv) R s := by
  refine kct_loop
    (fun k s' => ∃ h' tk i ys pool X, s' = { s with heap := h', toks := tk } ∧ i ≤ n ∧ k = n + 1 - i ∧ ys.length ≤ i ∧ St i h' ∧ Fr h₀ L h' m ∧ News h₀ L h' ((D, lst ys) :: (X ++ (pool ++ cst))) ∧ Zany X ∧ (∀ p ∈ pool, I < p.1 ∧ D < p.1 ∧ ∀ a ∈ adX, a < p.1) ∧ P i ys pool) ?_ (n + 1)
    ⟨s.heap, s.toks, 0, [], [], X₀, rfl, Nat.zero_le _, rfl, Nat.le_refl _, hst, F, by simpa using N, hZ₀, (fun _ h => nomatch h), hp⟩
  rintro k s' ⟨h', tk, i, ys, pool, X, rfl, hi, rfl, hyl, hst', F', N', hz, hpl, hP⟩
  have hXa : ∀ p ∈ X, p.1 ∈ adX := fun p hp => (hX X hz) ▸ List.mem_map_of_mem hp
  have offI : ∀ p ∈ (D, lst ys) :: (X ++ (pool ++ cst)), p.1 ≠ I := fun p hp => by
    rcases List.mem_cons.mp hp with rfl | hp
    · exact Ne.symm hID
    · rcases List.mem_append.mp hp with hp | hp
      · exact (hXL _ (hXa p hp)).2.2.1
      · rcases List.mem_append.mp hp with hp | hp
        · exact Nat.ne_of_gt (hpl p hp).1
        · exact (hcst p hp).1
  have next : ∀ h₁ : Heap, (∀ b o, b ∉ [I] → h'.get? b = some o → h₁.get? b = some o) → Fr h₀ L h₁ m ∧ News h₀ L h₁ ((D, lst ys) :: (X ++ (pool ++ cst))) := fun h₁ hk => by
    refine ⟨⟨F'.ns.at' fun o e => hk _ o (by simpa using Ne.symm hIL) e, fun b o e => hk b o ?_ (F'.keep b o e), F'.above⟩, fun p hp => ⟨hk _ _ (by simpa using offI p hp) (N' p hp).1, (N' p hp).2⟩⟩
    intro hb
    rw [List.mem_singleton.mp hb, hI₀] at e
    cases e
  by_cases hlt : i < n
  · refine W.item i _ _ _ hlt hst' fun v h₁ tk₁ hPv hst₁ hk₁ => ?_
    obtain ⟨F₁, N₁⟩ := next h₁ hk₁
    obtain ⟨oI, hoI⟩ := hIo _ _ hst₁
    have N₂ : News h₀ L h₁ ((I, oI) :: (D, lst ys) :: (X ++ (pool ++ cst))) := fun p hp => by
      rcases List.mem_cons.mp hp with rfl | hp
      · exact ⟨hoI, hIL, hI₀⟩
      · exact N₁ p hp
    refine hgo (i + 1) _ v _ _ hst₁ ?_
    refine hasg i v _ X oI ys pool _ _ hPv hz N₂ fun h₂ tk₂ X' hz' hk₂ hX' => ?_
    have hXa' : ∀ p ∈ X', p.1 ∈ adX := fun p hp => (hX X' (hZ _ _ hz')) ▸ List.mem_map_of_mem hp
    have F₂ : Fr h₀ L h₂ m := ⟨F₁.ns.at' fun o e => hk₂ _ o (fun q => (hXL _ q).1 rfl) e, fun b o e => hk₂ b o (fun q => by rw [(hXL _ q).2.1] at e; cases e) (F₁.keep b o e), F₁.above⟩
    have N₃ : News h₀ L h₂ ((I, oI) :: (D, lst ys) :: (X' ++ (pool ++ cst))) := fun p hp => by
      rcases List.mem_cons.mp hp with rfl | hp
      · exact ⟨hk₂ _ _ (fun q => (hXL _ q).2.2.1 rfl) hoI, hIL, hI₀⟩
      · rcases List.mem_cons.mp hp with rfl | hp
        · exact ⟨hk₂ _ _ (fun q => (hXL _ q).2.2.2 rfl) (N₁ _ (.head _)).1, hDL, hD₀⟩
        · rcases List.mem_append.mp hp with hp | hp
          · exact ⟨hX' p hp, (hXL _ (hXa' p hp)).1, (hXL _ (hXa' p hp)).2.1⟩
          · have z := N₁ p (.tail _ (List.mem_append.mpr (.inr hp)))
            refine ⟨hk₂ _ _ ?_ z.1, z.2⟩
            rcases List.mem_append.mp hp with hp | hp
            · exact fun q => Nat.lt_irrefl _ ((hpl p hp).2.2 _ q)
            · exact (hcst p hp).2.2
    have hord : ∀ p ∈ pool, ∀ q ∈ (I, oI) :: (D, lst ys) :: X', q.1 < p.1 := fun p hp q hq => by
      rcases List.mem_cons.mp hq with rfl | hq
      · exact (hpl p hp).1
      · rcases List.mem_cons.mp hq with rfl | hq
        · exact (hpl p hp).2.1
        · exact (hpl p hp).2.2 _ (hXa' q hq)
    have hst₂ : St (i + 1) h₂ := W.frame _ _ _ hst₁ fun b hb o e => by
      rcases hfp b hb with rfl | ⟨ob, hob⟩
      · exact hk₂ _ _ (fun q => (hXL _ q).2.2.1 rfl) e
      · exact hk₂ _ _ (hcst _ hob).2.2 e
    refine wpAny_mono (turn i v ys pool X' oI h₂ tk₂ _ hlt hPv hP hz' hord F₂ N₃) (fun ok s₃ h₃ => ?_) fun _ _ e => e
    have step : ∀ (s₄ : Shared) (Pn : Led → Prop), CoEnd h₀ L m { s with heap := h₂, toks := tk₂ } ((I, oI) :: (D, lst ys) :: X') cst pool Pn s₄ →
        ∃ h₄ tk₄ pool', s₄ = { s with heap := h₄, toks := tk₄ } ∧ St (i + 1) h₄ ∧ Fr h₀ L h₄ m ∧ News h₀ L h₄ ((D, lst ys) :: (X' ++ (pool' ++ cst))) ∧ (∀ p ∈ pool', I < p.1 ∧ D < p.1 ∧ ∀ a ∈ adX, a < p.1) ∧ Pn pool' := by
      rintro s₄ Pn ⟨h₄, tk₄, pool', rfl, F₄, N₄, ha, hPn⟩
      refine ⟨h₄, tk₄, pool', rfl, ?_, F₄, fun p hp => N₄ p (.tail _ hp), fun p hp => ?_, hPn⟩
      · refine W.frame _ _ _ hst₂ fun b hb o e => ?_
        rcases hfp b hb with rfl | ⟨ob, hob⟩
        · have e1 : h₂.get? b = some oI := (N₃ _ (.head _)).1
          rw [e1] at e
          cases e
          exact (N₄ _ (.head _)).1
        · have e1 : h₂.get? b = some ob := (N₃ (b, ob) (.tail _ (.tail _ (List.mem_append.mpr (.inr (List.mem_append.mpr (.inr hob))))))).1
          rw [e1] at e
          rw [← Option.some.inj e]
          exact (N₄ (b, ob) (.tail _ (.tail _ (List.mem_append.mpr (.inr (List.mem_append.mpr (.inr hob))))))).1
      · rcases ha p hp with ⟨q, hq, e⟩ | hq
        · rw [← e]
          exact hpl q hq
        · refine ⟨hq (I, oI) (.head _), hq (D, lst ys) (.tail _ (.head _)), fun a haX => ?_⟩
          rw [← hX X' (hZ _ _ hz')] at haX
          obtain ⟨q, hqX, rfl⟩ := List.mem_map.mp haX
          exact hq q (.tail _ (.tail _ hqX))
    cases ok with
    | true =>
      simp only [if_true] at h₃ ⊢
      refine wpAny_mono h₃ (fun y s₄ h₄ => ?_) fun _ _ e => e
      obtain ⟨h₄, tk₄, pool', rfl, hst₄, F₄, N₄, hpl', hPn⟩ := step _ _ h₄
      have zD := (N₄ (D, lst ys) (.head _)).1
      refine append_at (hsz := by show ys.toArray.size ≤ sizeLine; rw [List.size_toArray]; exact Nat.le_trans (Nat.le_trans hyl hi) hsz) zD fun h₅ hs₅ hD₅ => ?_
      refine ⟨n + 1 - (i + 1), by omega, h₅, tk₄, i + 1, ys ++ [y], pool', X', rfl, hlt, rfl, by rw [List.length_append, List.length_singleton]; exact Nat.succ_le_succ hyl, ?_, F₄.change hs₅ hDL hD₀, fun p hp => ?_, hZ _ _ hz', hpl', hPn⟩
      · refine W.frame _ _ _ hst₄ fun b hb o e => hs₅.extBut b o ?_ e
        rcases hfp b hb with rfl | ⟨ob, hob⟩
        · exact hID
        · exact (hcst _ hob).2.1
      · rcases List.mem_cons.mp hp with rfl | hp
        · exact ⟨hD₅.trans (congrArg some (lst_snoc ys y)), hDL, hD₀⟩
        · have z := N₄ p (.tail _ hp)
          refine ⟨hs₅.extBut _ _ ?_ z.1, z.2⟩
          rcases List.mem_append.mp hp with hp | hp
          · exact (hXL _ (hXa' p hp)).2.2.2
          · rcases List.mem_append.mp hp with hp | hp
            · exact Nat.ne_of_gt (hpl' p hp).2.1
            · exact (hcst p hp).2.1
    | false =>
      simp only [Bool.false_eq_true, if_false] at h₃ ⊢
      obtain ⟨h₄, tk₄, pool', rfl, hst₄, F₄, N₄, hpl', hPn⟩ := step _ _ h₃
      exact ⟨n + 1 - (i + 1), by omega, h₄, tk₄, i + 1, ys, pool', X', rfl, hlt, rfl, Nat.le_succ_of_le hyl, hst₄, F₄, N₄, hZ _ _ hz', hpl', hPn⟩
  · obtain rfl : i = n := Nat.le_antisymm hi (Nat.not_lt.mp hlt)
    refine W.done _ _ _ hst' fun h₂ tk₂ hk₂ => ?_
    obtain ⟨F₂, N₂⟩ := next h₂ hk₂
    exact done ys pool X h₂ tk₂ hP hz F₂ N₂ fun p hp => (hpl p hp).2

def CoGo (prog : Program) (w : World) (A : Around) (E : Value → Shared → Prop) (use : Option (Value → Sem Unit)) (Q : Value → Shared → Prop) (elt ct target iter : Expr) (scope : Scope) (cl : List (Str × Addr)) (pos : Pos) (env : Env) (x : Value) (s₁ : Shared) : Prop :=
  wpAny (model prog w) A (pyIter x) (fun it s₂ => wpAny (model prog w) A (newList []) (fun acc s₃ => wpAny (model prog w) A (newFunctionEnv scope env.globals cl [] env.qual none .none (some env)) (fun cenv s₄ =>
    codeAny (model prog w) A (.compStart (.ListComp elt [⟨target, iter, [ct], 0⟩] scope pos) 0 it acc { cenv with scope := relabel scope env }) (compPost (model prog w) A E use Q acc cenv.locals) s₄) E s₃) E s₂) E s₁
theorem co_eval {elt ct target iter : Expr} {scope : Scope} {cl : List (Str × Addr)} {pos : Pos} {Q : Value → Shared → Prop} (hclos : closureFor scope env = pure cl) (hkind : scope.kind = .function) (hnames : ∀ y ∈ scope.names, y.2 = .local → scope.names.lookup y.1 = some .local)
    (h : wpAny (model prog w) A (eval iter env) (fun x s₁ => Stop (CoGo prog w A E none Q elt ct target iter scope cl pos env x s₁)) E s) (hs : ∀ x, foldedSetIterable iter env x = pure x := by intro _; rfl) :
    wpAny (model prog w) A (eval (.ListComp elt [⟨target, iter, [ct], 0⟩] scope pos) env) Q E s := by
  rw [eval_ListComp]
  exact wpAny_comprehension_free (use := none) rfl hs hclos hkind hnames h
theorem co_assign {elt ct target iter : Expr} {scope : Scope} {cl : List (Str × Addr)} {pos spos py : Pos} {y : Str} {Q : Flow → Shared → Prop} (hsw : swapsWith (.ListComp elt [⟨target, iter, [ct], 0⟩] scope pos) (some (.Name y py)) spos.line env = pure true)
    (hclos : closureFor scope env = pure cl) (hkind : scope.kind = .function) (hnames : ∀ y ∈ scope.names, y.2 = .local → scope.names.lookup y.1 = some .local)
    (h : wpAny (model prog w) A (eval iter env) (fun x s₁ => Stop (CoGo prog w A E (some (assign (.Name y py) env)) (fun _ s' => Q .next s') elt ct target iter scope cl pos env x s₁)) E s) (hs : ∀ x, foldedSetIterable iter env x = pure x := by intro _; rfl) :
    wpAny (model prog w) A (exec (.Assign [.Name y py] (.ListComp elt [⟨target, iter, [ct], 0⟩] scope pos) spos) env) Q E s := by
  rw [exec_Assign_Name_used _ _ _ _ hsw]
  refine wpAny_bind (wpAny_standAt (wpAny_bind ?_))
  show wpAny _ A (do let _ ← comprehension (.ListComp elt [⟨target, iter, [ct], 0⟩] scope pos) scope env _ (newList []) false (eval iter env) (some (assign (.Name y py) env))) _ _ s
  exact wpAny_bind (wpAny_mono (wpAny_comprehension_free (use := some (assign (.Name y py) env)) (Q := fun _ s' => Q .next s') rfl hs hclos hkind hnames h) (fun _ s' hq => wpAny_pure (wpAny_pure hq)) fun _ _ e => e)

def ZAny (C : Addr) (X : Led) : Prop := ∃ oC mC, X = [(C, oC)] ∧ NsObj oC mC
def ZAt (B : Value → (Str → Option Value) → Prop) (C : Addr) (v : Value) (X : Led) : Prop := ∃ oC mC, X = [(C, oC)] ∧ NsObj oC mC ∧ B v mC
theorem co_block {elt ct target iter : Expr} {scope : Scope} {cl : List (Str × Addr)} {pos : Pos} {RR : Value → Addr → Result → Shared → Prop} {I : Addr} {fp : List Addr} {n : Nat} {Pv : Nat → Value → Prop} {St : Nat → Heap → Prop} (W : Walks prog w A I fp [I] n Pv St) (hsz : n ≤ sizeLine)
    (hcell : ∀ y ∈ scope.names, y.2 ≠ .cell) (hkind : scope.kind = .function) (hIo : ∀ i h, St i h → ∃ o, h.get? I = some o)
    (hgo : ∀ i (s' : Shared) v (Q' : Unit → Shared → Prop) (E' : Value → Shared → Prop), St i s'.heap → Q' () s' → wpAny (model prog w) A (letOwnedTupleGo target (.ref I) v) Q' E' s')
    (B : Value → (Str → Option Value) → Prop) (P : Nat → List Value → Led → Prop) (cst : Led)
    (hfp : ∀ b ∈ fp, b = I ∨ ∃ o, (b, o) ∈ cst) (hIL : I ≠ L) (hI₀ : h₀.get? I = none) (hcst : ∀ p ∈ cst, p.1 ≠ I) (hst : St 0 s.heap) (F : Fr h₀ L s.heap m) (N : News h₀ L s.heap cst) (hp : P 0 [] [])
    (hasg : ∀ C i v (s' : Shared) mC (Q' : Unit → Shared → Prop) (E' : Value → Shared → Prop), Pv i v → s'.heap.Ns C mC → (∀ p ∈ cst, s'.heap.get? p.1 = some p.2) →
      (∀ h' tk mC', (∀ b o, b ≠ C → s'.heap.get? b = some o → h'.get? b = some o) → h'.Ns C mC' → B v mC' → Q' () { s' with heap := h', toks := tk }) → wpAny (model prog w) A (assign target (compEnvC scope cl C env) v) Q' E' s')
    (turn : ∀ i v ys pool oI D C oC mC h tk (E' : Value → Shared → Prop), i < n → Pv i v → P i ys pool → NsObj oC mC → B v mC → I < D → D < C → (∀ p ∈ cst, p.1 < D) → (∀ p ∈ pool, C < p.1) → Fr h₀ L h m → News h₀ L h ((I, oI) :: (D, lst ys) :: (C, oC) :: (pool ++ cst)) →
      wpAny (model prog w) A (isTrue ct (compEnvC scope cl C env) (eval ct (compEnvC scope cl C env))) (fun ok s' => if ok = true then
        wpAny (model prog w) A (eval elt (compEnvC scope cl C env)) (fun y s'' => Stop (CoEnd h₀ L m { s with heap := h, toks := tk } [(I, oI), (D, lst ys), (C, oC)] cst pool (P (i + 1) (ys ++ [y])) s'')) E' s'
        else Stop (CoEnd h₀ L m { s with heap := h, toks := tk } [(I, oI), (D, lst ys), (C, oC)] cst pool (P (i + 1) ys) s')) E' { s with heap := h, toks := tk })
    (hRR : ∀ D C oC mC ys pool h tk, P n ys pool → NsObj oC mC → C ≠ L → D ≠ L → (∀ p ∈ cst, p.1 < D) → (∀ p ∈ pool, D < p.1 ∧ C < p.1) → D < C → h₀.get? C = none → h₀.get? D = none → Fr h₀ L h m → News h₀ L h ((D, lst ys) :: (C, oC) :: (pool ++ cst)) → RR (.ref D) C (.ok .next) { s with heap := h, toks := tk }) :
    wpAny (model prog w) A (newList []) (fun acc s₃ => wpAny (model prog w) A (newFunctionEnv scope env.globals cl [] env.qual none .none (some env)) (fun cenv s₄ =>
      codeAny (model prog w) A (.compStart (.ListComp elt [⟨target, iter, [ct], 0⟩] scope pos) 0 (.ref I) acc { cenv with scope := relabel scope env }) (RR acc cenv.locals) s₄) E s₃) E s := by
  refine wpAny_newObj_type (wpAny_newFunctionEnv hcell (by intro y hy; simp at hy) (fun h₁ hns₁ hsb₁ => ?_) hkind)
  dsimp only at hns₁ hsb₁ ⊢
  generalize hH2 : s.heap.push { cls := .type "list", dict := none, data := .seq ([] : List Value).toArray } = H2 at hns₁ hsb₁ ⊢
  have hC : H2.objs.size = s.heap.objs.size + 1 := by rw [← hH2, Heap.size_push]
  have hDC : s.heap.objs.size < H2.objs.size := by rw [hC]; exact Nat.lt_succ_self _
  obtain ⟨oI₀, hoI₀⟩ := hIo _ _ hst
  have hIlt : I < s.heap.objs.size := Heap.lt_size hoI₀
  have hLlt : L < s.heap.objs.size := F.ns.lt
  have clt : ∀ p ∈ cst, p.1 < s.heap.objs.size := fun p hp => Heap.lt_size (N p hp).1
  have old : ∀ b o, s.heap.get? b = some o → h₁.get? b = some o := fun b o e => by
    have hb := Heap.lt_size e
    exact hsb₁.extBut b o (Nat.ne_of_lt (Nat.lt_trans hb hDC)) (Heap.get?_push_of_some _ (hH2 ▸ Heap.get?_push_of_some _ e))
  have hacc : h₁.get? s.heap.objs.size = some (lst []) := hsb₁.extBut _ _ (Nat.ne_of_lt hDC) (Heap.get?_push_of_some _ (hH2 ▸ Heap.get?_push_size _ rfl))
  have fresh₀ : ∀ a, s.heap.objs.size ≤ a → h₀.get? a = none := fun a ha => by
    cases e : h₀.get? a with
    | none => rfl
    | some o' => exact absurd (Heap.lt_size (F.keep a o' e)) (Nat.not_lt.mpr ha)
  have hfpl : ∀ b ∈ fp, b < s.heap.objs.size := fun b hb => by
    rcases hfp b hb with rfl | ⟨o, ho⟩
    · exact hIlt
    · exact clt _ ho
  have hst₁ : St 0 h₁ := W.frame _ _ _ hst fun b _ o e => old b o e
  obtain ⟨oC, heC, hoC⟩ := ns_obj hns₁
  have hCL : H2.objs.size ≠ L := Nat.ne_of_gt (Nat.lt_trans hLlt hDC)
  have hC₀ : h₀.get? H2.objs.size = none := fresh₀ _ (Nat.le_of_lt hDC)
  have loop : ∀ s₃ : Shared, s₃ = { s with heap := h₁, toks := s.toks + ([] : List (Str × Value)).length } →
      codeAny (model prog w) A (.compLoop (.ListComp elt [⟨target, iter, [ct], 0⟩] scope pos) 0 (.ref I) (.ref s.heap.objs.size) (compEnvC scope cl H2.objs.size env)) (RR (.ref s.heap.objs.size) H2.objs.size) s₃ := by
    rintro s₃ rfl
    refine co_loop (h₀ := h₀) (L := L) (m := m) (cenv := compEnvC scope cl H2.objs.size env) W hsz hIo hgo (ZAny H2.objs.size) (ZAt B H2.objs.size) (fun v X ⟨o, mm, e, h, _⟩ => ⟨o, mm, e, h⟩) P cst [(H2.objs.size, oC)] [H2.objs.size] (fun X ⟨o, mm, e, _⟩ => by rw [e]; rfl)
      hfp hIL hI₀ (Nat.ne_of_gt hLlt) (fresh₀ _ (Nat.le_refl _)) (Nat.ne_of_lt hIlt) ?_ ?_ hst₁ (F.keeps old) ?_ ⟨oC, _, rfl, hoC⟩ hp ?_ ?_ ?_
    · intro a ha
      rw [List.mem_singleton.mp ha]
      exact ⟨hCL, hC₀, Nat.ne_of_gt (Nat.lt_trans hIlt hDC), Nat.ne_of_gt hDC⟩
    · intro p hp
      refine ⟨hcst p hp, Nat.ne_of_lt (clt p hp), fun q => ?_⟩
      have := clt p hp
      rw [List.mem_singleton.mp q] at this
      exact Nat.lt_irrefl _ (Nat.lt_trans hDC this)
    · intro p hp
      rcases List.mem_cons.mp hp with rfl | hp
      · exact ⟨hacc, Nat.ne_of_gt hLlt, fresh₀ _ (Nat.le_refl _)⟩
      · rcases List.mem_cons.mp hp with rfl | hp
        · exact ⟨heC, hCL, hC₀⟩
        · exact ⟨old _ _ (N p hp).1, (N p hp).2⟩
    · rintro i v s' X oI ys pool Q' E' hPv ⟨oC', mC, rfl, hns⟩ N' k
      have zC : s'.heap.get? H2.objs.size = some oC' := (N' _ (.tail _ (.tail _ (.head _)))).1
      refine hasg _ i v s' mC Q' E' hPv (hns.ns zC) (fun p hp => (N' p (List.mem_cons_of_mem _ (List.mem_cons_of_mem _ (List.mem_append.mpr (.inr (List.mem_append.mpr (.inr hp))))))).1) fun h' tk mC' hk hn' hB => ?_
      obtain ⟨oC2, heC2, hoC2⟩ := ns_obj hn'
      refine k h' tk [(H2.objs.size, oC2)] ⟨oC2, mC', rfl, hoC2, hB⟩ (fun b o hb e => hk b o (fun q => hb (by rw [q]; exact .head _)) e) fun p hp => ?_
      rw [List.mem_singleton.mp hp]
      exact heC2
    · rintro i v ys pool X oI h tk E' hi hPv hP ⟨oC', mC, rfl, hns, hB⟩ hord F' N'
      exact turn i v ys pool oI _ _ oC' mC h tk E' hi hPv hP hns hB hIlt hDC clt (fun p hp => hord p hp (_, oC') (.tail _ (.tail _ (.head _)))) F' N'
    · rintro ys pool X h tk hP ⟨oC', mC, rfl, hns⟩ F' N' hpl
      exact hRR _ _ oC' mC ys pool h tk hP hns hCL (Nat.ne_of_gt hLlt) clt (fun p hp => ⟨(hpl p hp).1, (hpl p hp).2 _ (.head _)⟩) hDC hC₀ (fresh₀ _ (Nat.le_refl _)) F' N'
  exact codeAny_compStart_list (loop _ rfl) (W.self 0 _ _ _ hst₁ (loop _ rfl))
end
end
section
open PySem.Calls
open PyProof.Rows.LCg
section
variable {prog : Program} {w : World} {A : Around} {E : Value → Shared → Prop} {s : Shared} {env : Env} {h₀ : Heap} {L : Addr} {m : Str → Option Value}
def BName (x : Str) (v : Value) (mC : Str → Option Value) : Prop := mC x = some v
def BPair (cst : Led) (a b : Str) (v : Value) (mC : Str → Option Value) : Prop := ∃ t v₁ v₂ nt, v = .ref t ∧ (t, tupObj [v₁, v₂] nt) ∈ cst ∧ mC a = some v₁ ∧ mC b = some v₂
theorem co_name {x : Str} {px : Pos} {scope : Scope} {cl : List (Str × Addr)} {Pv : Nat → Value → Prop} {cst : Led} (hx : scope.names.lookup x = some .local) (hkind : scope.kind = .function) :
    ∀ C i v (s' : Shared) mC (Q' : Unit → Shared → Prop) (E' : Value → Shared → Prop), Pv i v → s'.heap.Ns C mC → (∀ p ∈ cst, s'.heap.get? p.1 = some p.2) →
      (∀ h' tk mC', (∀ b o, b ≠ C → s'.heap.get? b = some o → h'.get? b = some o) → h'.Ns C mC' → BName x v mC' → Q' () { s' with heap := h', toks := tk }) → wpAny (model prog w) A (assign (.Name x px) (compEnvC scope cl C env) v) Q' E' s' := by
  intro C i v s' mC Q' E' _ hn _ k
  exact wpAny_assign_Name (wpAny_storeName_local (lookup_relabel_local hx) hn (fun h' hn' hs' => k h' _ _ hs'.extBut hn' (by simp [BName])) (by simp [compEnvC, relabel, hkind]))
theorem co_pair {a b : Str} {pa pb tp : Pos} {kk : Nat} {scope : Scope} {cl : List (Str × Addr)} {Pv : Nat → Value → Prop} {cst : Led} (hh : A.handled = none) (ha : scope.names.lookup a = some .local) (hb : scope.names.lookup b = some .local) (hab : a ≠ b) (hkind : scope.kind = .function)
    (hpr : ∀ i v, Pv i v → ∃ t v₁ v₂ nt, v = .ref t ∧ (t, tupObj [v₁, v₂] nt) ∈ cst) :
    ∀ C i v (s' : Shared) mC (Q' : Unit → Shared → Prop) (E' : Value → Shared → Prop), Pv i v → s'.heap.Ns C mC → (∀ p ∈ cst, s'.heap.get? p.1 = some p.2) →
      (∀ h' tk mC', (∀ b o, b ≠ C → s'.heap.get? b = some o → h'.get? b = some o) → h'.Ns C mC' → BPair cst a b v mC' → Q' () { s' with heap := h', toks := tk }) → wpAny (model prog w) A (assign (.Tuple [.Name a pa, .Name b pb] kk tp) (compEnvC scope cl C env) v) Q' E' s' := by
  intro C i v s' mC Q' E' hv hn hc k
  obtain ⟨t, v₁, v₂, nt, rfl, hm⟩ := hpr i v hv
  refine kcp_assign hh ⟨_, hc _ hm, rfl, nt, rfl⟩ (lookup_relabel_local ha) (lookup_relabel_local hb) (by simp [compEnvC, relabel, hkind]) hn fun h' tk hn' hk => ?_
  exact k h' tk _ hk hn' ⟨t, v₁, v₂, nt, rfl, hm, by simp [hab], by simp⟩

theorem co_seq {elt ct target iter : Expr} {scope : Scope} {cl : List (Str × Addr)} {pos : Pos} {RR : Value → Addr → Result → Shared → Prop} {l : Addr} {ol : Obj} {vs : List Value} {k : Nat} (isL : ol.cls = .type "list" ∨ ol.cls = .type "tuple") (hd : ol.data = .seq vs.toArray k) (hsz : vs.length ≤ sizeLine)
    (hcell : ∀ y ∈ scope.names, y.2 ≠ .cell) (hkind : scope.kind = .function) (hh : A.handled = none)
    (B : Value → (Str → Option Value) → Prop) (P : Nat → List Value → Led → Prop) (cst : Led) (hl : (l, ol) ∈ cst) (F : Fr h₀ L s.heap m) (N : News h₀ L s.heap cst) (hp : P 0 [] [])
    (hasg : ∀ (C : Addr) (i : Nat) (v : Value) (s' : Shared) mC (Q' : Unit → Shared → Prop) (E' : Value → Shared → Prop), vs[i]? = some v → s'.heap.Ns C mC → (∀ p ∈ cst, s'.heap.get? p.1 = some p.2) →
      (∀ h' tk mC', (∀ b o, b ≠ C → s'.heap.get? b = some o → h'.get? b = some o) → h'.Ns C mC' → B v mC' → Q' () { s' with heap := h', toks := tk }) → wpAny (model prog w) A (assign target (compEnvC scope cl C env) v) Q' E' s')
    (turn : ∀ i v ys pool I oI D C oC mC h tk (E' : Value → Shared → Prop), vs[i]? = some v → P i ys pool → NsObj oC mC → B v mC → I < D → D < C → (∀ p ∈ cst, p.1 < I) → (∀ p ∈ pool, C < p.1) → Fr h₀ L h m → News h₀ L h ((I, oI) :: (D, lst ys) :: (C, oC) :: (pool ++ cst)) →
      wpAny (model prog w) A (isTrue ct (compEnvC scope cl C env) (eval ct (compEnvC scope cl C env))) (fun ok s' => if ok = true then
        wpAny (model prog w) A (eval elt (compEnvC scope cl C env)) (fun y s'' => Stop (CoEnd h₀ L m { s with heap := h, toks := tk } [(I, oI), (D, lst ys), (C, oC)] cst pool (P (i + 1) (ys ++ [y])) s'')) E' s'
        else Stop (CoEnd h₀ L m { s with heap := h, toks := tk } [(I, oI), (D, lst ys), (C, oC)] cst pool (P (i + 1) ys) s')) E' { s with heap := h, toks := tk })
    (hRR : ∀ D C oC mC ys pool h tk, P vs.length ys pool → NsObj oC mC → C ≠ L → D ≠ L → (∀ p ∈ cst, p.1 < D) → (∀ p ∈ pool, D < p.1 ∧ C < p.1) → D < C → h₀.get? C = none → h₀.get? D = none → Fr h₀ L h m → News h₀ L h ((D, lst ys) :: (C, oC) :: (pool ++ cst)) → RR (.ref D) C (.ok .next) { s with heap := h, toks := tk }) :
    wpAny (model prog w) A (pyIter (.ref l)) (fun it s₂ => wpAny (model prog w) A (newList []) (fun acc s₃ => wpAny (model prog w) A (newFunctionEnv scope env.globals cl [] env.qual none .none (some env)) (fun cenv s₄ =>
      codeAny (model prog w) A (.compStart (.ListComp elt [⟨target, iter, [ct], 0⟩] scope pos) 0 it acc { cenv with scope := relabel scope env }) (RR acc cenv.locals) s₄) E s₃) E s₂) E s := by
  have hol : s.heap.get? l = some ol := (N _ hl).1
  have hne : l ≠ s.heap.objs.size := Nat.ne_of_lt (Heap.lt_size hol)
  have hI0 : h₀.get? s.heap.objs.size = none := next_is_new F
  have hIL : s.heap.objs.size ≠ L := Nat.ne_of_gt F.ns.lt
  have clt : ∀ p ∈ cst, p.1 < s.heap.objs.size := fun p hp => Heap.lt_size (N p hp).1
  have hoff : ∀ p ∈ cst, p.1 ≠ s.heap.objs.size := fun p hp => Nat.ne_of_lt (clt p hp)
  have hfp : ∀ b ∈ [s.heap.objs.size, l], b = s.heap.objs.size ∨ ∃ o, (b, o) ∈ cst := fun b hb => by
    rcases List.mem_cons.mp hb with rfl | hb
    · exact .inl rfl
    · rw [List.mem_singleton.mp hb]
      exact .inr ⟨ol, hl⟩
  rcases isL with hc | hc
  · have hls : s.heap.IsList l vs.toArray := ⟨ol, hol, hc, k, hd⟩
    refine wpAny_pyIter_list hls ?_
    have W := Walks.list (prog := prog) (w := w) hh s.heap.objs.size l hne vs.toArray
    rw [List.size_toArray] at W
    exact co_block (s := { s with heap := s.heap.push _ }) W hsz hcell hkind (fun i h st => by obtain ⟨o, e, _⟩ := st.1; exact ⟨o, e⟩) (fun i s' v Q' E' st hq => letGo_listiter st.1 hq) B P cst hfp hIL hI0 hoff ⟨⟨_, Heap.get?_push_size _ rfl, rfl, rfl⟩, hls.push _⟩ (F.push _)
      (fun p hp => ⟨Heap.get?_push_of_some _ (N p hp).1, (N p hp).2⟩) hp (fun C i v s' mC Q' E' hv => hasg C i v s' mC Q' E' (by simpa using hv))
      (fun i v ys pool oI D C oC mC h tk E' _ hv hP hns hB h1 h2 _ h4 F' N' => turn i v ys pool _ oI D C oC mC h tk E' (by simpa using hv) hP hns hB h1 h2 clt h4 F' N') hRR
  · have hls : s.heap.IsTuple l vs.toArray := ⟨ol, hol, hc, k, hd⟩
    refine wpAny_pyIter_tuple hls ?_
    have W := Walks.tuple (prog := prog) (w := w) hh s.heap.objs.size l hne vs.toArray
    rw [List.size_toArray] at W
    exact co_block (s := { s with heap := s.heap.push _ }) W hsz hcell hkind (fun i h st => by obtain ⟨o, e, _⟩ := st.1; exact ⟨o, e⟩) (fun i s' v Q' E' st hq => letGo_tupleiter st.1 hq) B P cst hfp hIL hI0 hoff ⟨⟨_, Heap.get?_push_size _ rfl, rfl, rfl⟩, hls.at fun o e => Heap.get?_push_of_some _ e⟩ (F.push _)
      (fun p hp => ⟨Heap.get?_push_of_some _ (N p hp).1, (N p hp).2⟩) hp (fun C i v s' mC Q' E' hv => hasg C i v s' mC Q' E' (by simpa using hv))
      (fun i v ys pool oI D C oC mC h tk E' _ hv hP hns hB h1 h2 _ h4 F' N' => turn i v ys pool _ oI D C oC mC h tk E' (by simpa using hv) hP hns hB h1 h2 clt h4 F' N') hRR

theorem co_range {elt ct iter : Expr} {x : Str} {px : Pos} {scope : Scope} {cl : List (Str × Addr)} {pos : Pos} {RR : Value → Addr → Result → Shared → Prop} {r : Addr} {a b : Int} {t u v : Tok} {n : Nat} (hr : IsRange s.heap r a b 1 t u v) (hsm : Builtin.Range.small a b 1 = true) (hn : Builtin.Range.rangeSize a b 1 = (n : Int)) (hsz : n ≤ sizeLine)
    (hcell : ∀ y ∈ scope.names, y.2 ≠ .cell) (hkind : scope.kind = .function) (hx : scope.names.lookup x = some .local) (hh : A.handled = none)
    (P : Nat → List Value → Led → Prop) (cst : Led) (F : Fr h₀ L s.heap m) (N : News h₀ L s.heap cst) (hp : P 0 [] [])
    (turn : ∀ i tv ys pool I oI D C oC mC h tk (E' : Value → Shared → Prop), i < n → P i ys pool → NsObj oC mC → mC x = some (.int (a + (i : Int)) tv) → I < D → D < C → (∀ p ∈ cst, p.1 < I) → (∀ p ∈ pool, C < p.1) → Fr h₀ L h m → News h₀ L h ((I, oI) :: (D, lst ys) :: (C, oC) :: (pool ++ cst)) →
      wpAny (model prog w) A (isTrue ct (compEnvC scope cl C env) (eval ct (compEnvC scope cl C env))) (fun ok s' => if ok = true then
        wpAny (model prog w) A (eval elt (compEnvC scope cl C env)) (fun y s'' => Stop (CoEnd h₀ L m { s with heap := h, toks := tk } [(I, oI), (D, lst ys), (C, oC)] cst pool (P (i + 1) (ys ++ [y])) s'')) E' s'
        else Stop (CoEnd h₀ L m { s with heap := h, toks := tk } [(I, oI), (D, lst ys), (C, oC)] cst pool (P (i + 1) ys) s')) E' { s with heap := h, toks := tk })
    (hRR : ∀ D C oC mC ys pool h tk, P n ys pool → NsObj oC mC → C ≠ L → D ≠ L → (∀ p ∈ cst, p.1 < D) → (∀ p ∈ pool, D < p.1 ∧ C < p.1) → D < C → h₀.get? C = none → h₀.get? D = none → Fr h₀ L h m → News h₀ L h ((D, lst ys) :: (C, oC) :: (pool ++ cst)) → RR (.ref D) C (.ok .next) { s with heap := h, toks := tk }) :
    wpAny (model prog w) A (pyIter (.ref r)) (fun it s₂ => wpAny (model prog w) A (newList []) (fun acc s₃ => wpAny (model prog w) A (newFunctionEnv scope env.globals cl [] env.qual none .none (some env)) (fun cenv s₄ =>
      codeAny (model prog w) A (.compStart (.ListComp elt [⟨.Name x px, iter, [ct], 0⟩] scope pos) 0 it acc { cenv with scope := relabel scope env }) (RR acc cenv.locals) s₄) E s₃) E s₂) E s := by
  have hI0 : h₀.get? s.heap.objs.size = none := next_is_new F
  have hIL : s.heap.objs.size ≠ L := Nat.ne_of_gt F.ns.lt
  have clt : ∀ p ∈ cst, p.1 < s.heap.objs.size := fun p hp => Heap.lt_size (N p hp).1
  have hoff : ∀ p ∈ cst, p.1 ≠ s.heap.objs.size := fun p hp => Nat.ne_of_lt (clt p hp)
  refine wpAny_pyIter_range hr hsm ?_
  have W := Walks.range (prog := prog) (w := w) hh s.heap.objs.size a 1 n
  refine co_block (s := { s with heap := s.heap.push _ }) W hsz hcell hkind (fun i h st => ⟨_, st⟩) (fun i s' v Q' E' st hq => wpAny_pure hq) (BName x) P cst (fun b hb => .inl (List.mem_singleton.mp hb)) hIL hI0 hoff
    (by show IsRangeIter _ _ _ _ _; rw [hn]; simpa using Heap.get?_push_size _ rfl) (F.push _) (fun p hp => ⟨Heap.get?_push_of_some _ (N p hp).1, (N p hp).2⟩) hp (co_name hx hkind) ?_ hRR
  rintro i v ys pool oI D C oC mC h tk E' hi ⟨tv, rfl⟩ hP hns hB h1 h2 _ h4 F' N'
  refine turn i tv ys pool _ oI D C oC mC h tk E' hi hP hns ?_ h1 h2 clt h4 F' N'
  unfold BName at hB
  rwa [Int.mul_one] at hB

theorem co_fin_eval {Q : Value → Shared → Prop} {cst : Led} {P : List Value → Led → Prop}
    (done : ∀ D ys pool h tk, P ys pool → (∀ p ∈ cst, p.1 < D) → (∀ p ∈ pool, D < p.1) → Fr h₀ L h m → News h₀ L h ((D, lst ys) :: (pool ++ cst)) → Q (.ref D) { s with heap := h, toks := tk }) :
    ∀ D C oC mC ys pool h tk, P ys pool → NsObj oC mC → C ≠ L → D ≠ L → (∀ p ∈ cst, p.1 < D) → (∀ p ∈ pool, D < p.1 ∧ C < p.1) → D < C → h₀.get? C = none → h₀.get? D = none → Fr h₀ L h m → News h₀ L h ((D, lst ys) :: (C, oC) :: (pool ++ cst)) →
      compPost (model prog w) A E none Q (.ref D) C (.ok .next) { s with heap := h, toks := tk } := by
  intro D C oC mC ys pool h tk hP hns hCL hDL hcD hpl hDC hC₀ hD₀ F N
  have zC : h.get? C = some oC := (N _ (.tail _ (.head _))).1
  refine ⟨mC, hns.ns zC, fun h'' hs => done D ys pool h'' tk hP hcD (fun p hp => (hpl p hp).1) (F.change hs hCL hC₀) fun p hp => ?_⟩
  rcases List.mem_cons.mp hp with rfl | hp
  · exact ⟨hs.extBut _ _ (Nat.ne_of_lt hDC) (N _ (.head _)).1, hDL, hD₀⟩
  · have z := N p (.tail _ (.tail _ hp))
    refine ⟨hs.extBut _ _ ?_ z.1, z.2⟩
    rcases List.mem_append.mp hp with hp | hp
    · exact Nat.ne_of_gt (hpl p hp).2
    · exact Nat.ne_of_lt (Nat.lt_trans (hcD p hp) hDC)
theorem co_fin_assign {y : Str} {py : Pos} {Q : Value → Shared → Prop} {cst : Led} {P : List Value → Led → Prop} (hL : env.locals = L) (hy : env.kindOf y = some .local) (hpk : (env.scope.kind == .class || (env.scope.kind == .module && env.locals != env.globals)) = false)
    (done : ∀ D ys pool h tk, P ys pool → (∀ p ∈ cst, p.1 < D) → (∀ p ∈ pool, D < p.1) → Fr h₀ L h (fun z => if z = y then some (.ref D) else m z) → News h₀ L h ((D, lst ys) :: (pool ++ cst)) → Q .none { s with heap := h, toks := tk }) :
    ∀ D C oC mC ys pool h tk, P ys pool → NsObj oC mC → C ≠ L → D ≠ L → (∀ p ∈ cst, p.1 < D) → (∀ p ∈ pool, D < p.1 ∧ C < p.1) → D < C → h₀.get? C = none → h₀.get? D = none → Fr h₀ L h m → News h₀ L h ((D, lst ys) :: (C, oC) :: (pool ++ cst)) →
      compPost (model prog w) A E (some (assign (.Name y py) env)) Q (.ref D) C (.ok .next) { s with heap := h, toks := tk } := by
  subst hL
  intro D C oC mC ys pool h tk hP hns hCL hDL hcD hpl hDC hC₀ hD₀ F N
  have zC : h.get? C = some oC := (N _ (.tail _ (.head _))).1
  show wpAny _ A (assign (.Name y py) env (.ref D)) _ _ _
  refine wpAny_assign_Name (wpAny_storeName_local hy F.ns (fun h₂ hn₂ hs₂ => ?_) hpk)
  have F₂ : Fr h₀ env.locals h₂ (fun z => if z = y then some (.ref D) else m z) := F.set hn₂ hs₂
  have N₂ : News h₀ env.locals h₂ ((D, lst ys) :: (C, oC) :: (pool ++ cst)) := N.set hs₂
  have zC₂ : h₂.get? C = some oC := (N₂ _ (.tail _ (.head _))).1
  refine ⟨mC, hns.ns zC₂, fun h'' hs => done D ys pool h'' _ hP hcD (fun p hp => (hpl p hp).1) (F₂.change hs hCL hC₀) fun p hp => ?_⟩
  rcases List.mem_cons.mp hp with rfl | hp
  · exact ⟨hs.extBut _ _ (Nat.ne_of_lt hDC) (N₂ _ (.head _)).1, hDL, hD₀⟩
  · have z := N₂ p (.tail _ (.tail _ hp))
    refine ⟨hs.extBut _ _ ?_ z.1, z.2⟩
    rcases List.mem_append.mp hp with hp | hp
    · exact Nat.ne_of_gt (hpl p hp).2
    · exact Nat.ne_of_lt (Nat.lt_trans (hcD p hp) hDC)
end
end
section
open PySem.Calls
open PyProof.Rows.LCg
section
variable {M : Model} {A : Around} {E : Value → Shared → Prop} {s : Shared}
theorem my_env1 {scope : Scope} {globals : Addr} {cl : List (Str × Addr)} {qual : Str} {env : Env} {x : Str} {Q : Env → Shared → Prop} (hcf : ∀ n (a : List (Str × Addr)), cellsFrom n scope.names a = (x, n) :: a) (hpc : ∀ h, pushCells h scope.names = h.push { cls := .type "cell", data := .cell none })
    (hQ : Q { scope, locals := s.heap.objs.size, globals, cells := (x, s.heap.objs.size + 1) :: cl, qual, func := none, code := env.code, frame := env.frame, builtins := env.builtins } { s with heap := (s.heap.push { cls := .type "dict", data := .dict #[] }).push { cls := .type "cell", data := .cell none } }) :
    wpAny M A (newFunctionEnv scope globals cl [] qual none .none (some env)) Q E s := by
  simp only [newFunctionEnv, Option.isSome_some, if_true]
  refine wpAny_bind (wpAny_alloc ?_)
  refine wpAny_bind (wpAny_layCells _ (fun name kind cells => by cases hkc : kind == NameKind.cell <;> simp [hkc]) _ _ _ _ ?_)
  rw [hcf, hpc, Heap.size_push, List.forIn_nil]
  exact wpAny_bind (wpAny_pure (wpAny_pure hQ))
end
section
variable {prog : Program} {w : World} {A : Around} {E : Value → Shared → Prop} {s : Shared} {env : Env} {h₀ : Heap} {L : Addr} {m : Str → Option Value}
def ZAny1 (C : Addr) (X : Led) : Prop := ∃ oC oc, X = [(C, oC), (C + 1, oc)] ∧ NsObj oC (fun _ => none) ∧ ∃ ov, oc.data = .cell ov
def ZAt1 (C : Addr) (v : Value) (X : Led) : Prop := ∃ oC oc, X = [(C, oC), (C + 1, oc)] ∧ NsObj oC (fun _ => none) ∧ oc.data = .cell (some v)
theorem co_seq1 {elt ct iter : Expr} {x : Str} {px : Pos} {scope : Scope} {cl : List (Str × Addr)} {pos : Pos} {RR : Value → Addr → Result → Shared → Prop} {l : Addr} {ol : Obj} {vs : List Value} {k : Nat} (hc : ol.cls = .type "list") (hd : ol.data = .seq vs.toArray k) (hsz : vs.length ≤ sizeLine)
    (hcf : ∀ n (a : List (Str × Addr)), cellsFrom n scope.names a = (x, n) :: a) (hpc : ∀ h, pushCells h scope.names = h.push { cls := .type "cell", data := .cell none }) (hkind : scope.kind = .function) (hh : A.handled = none)
    (hx : ∀ cl C, (compEnvC scope cl C env).kindOf x = some .cell)
    (P : Nat → List Value → Led → Prop) (cst : Led) (hl : (l, ol) ∈ cst) (F : Fr h₀ L s.heap m) (N : News h₀ L s.heap cst) (hp : P 0 [] [])
    (turn : ∀ i v ys pool I oI D C oC oc h tk (E' : Value → Shared → Prop), vs[i]? = some v → P i ys pool → NsObj oC (fun _ => none) → oc.data = .cell (some v) → I < D → D < C → (∀ p ∈ cst, p.1 < I) → (∀ p ∈ pool, C + 1 < p.1) → Fr h₀ L h m → News h₀ L h ((I, oI) :: (D, lst ys) :: (C, oC) :: (C + 1, oc) :: (pool ++ cst)) →
      wpAny (model prog w) A (isTrue ct (compEnvC scope ((x, C + 1) :: cl) C env) (eval ct (compEnvC scope ((x, C + 1) :: cl) C env))) (fun ok s' => if ok = true then
        wpAny (model prog w) A (eval elt (compEnvC scope ((x, C + 1) :: cl) C env)) (fun y s'' => Stop (CoEnd h₀ L m { s with heap := h, toks := tk } [(I, oI), (D, lst ys), (C, oC), (C + 1, oc)] cst pool (P (i + 1) (ys ++ [y])) s'')) E' s'
        else Stop (CoEnd h₀ L m { s with heap := h, toks := tk } [(I, oI), (D, lst ys), (C, oC), (C + 1, oc)] cst pool (P (i + 1) ys) s')) E' { s with heap := h, toks := tk })
    (hRR : ∀ D C oC mC oc ys pool h tk, P vs.length ys pool → NsObj oC mC → C ≠ L → D ≠ L → (∀ p ∈ cst, p.1 < D) → (∀ p ∈ (C + 1, oc) :: pool, D < p.1 ∧ C < p.1) → D < C → h₀.get? C = none → h₀.get? D = none → Fr h₀ L h m → News h₀ L h ((D, lst ys) :: (C, oC) :: (((C + 1, oc) :: pool) ++ cst)) → RR (.ref D) C (.ok .next) { s with heap := h, toks := tk }) :
    wpAny (model prog w) A (pyIter (.ref l)) (fun it s₂ => wpAny (model prog w) A (newList []) (fun acc s₃ => wpAny (model prog w) A (newFunctionEnv scope env.globals cl [] env.qual none .none (some env)) (fun cenv s₄ =>
      codeAny (model prog w) A (.compStart (.ListComp elt [⟨.Name x px, iter, [ct], 0⟩] scope pos) 0 it acc { cenv with scope := relabel scope env }) (RR acc cenv.locals) s₄) E s₃) E s₂) E s := by
  have hol : s.heap.get? l = some ol := (N _ hl).1
  have hne : l ≠ s.heap.objs.size := Nat.ne_of_lt (Heap.lt_size hol)
  have hls : s.heap.IsList l vs.toArray := ⟨ol, hol, hc, k, hd⟩
  refine wpAny_pyIter_list hls ?_
  have W := Walks.list (prog := prog) (w := w) hh s.heap.objs.size l hne vs.toArray
  rw [List.size_toArray] at W
  have clt : ∀ p ∈ cst, p.1 < s.heap.objs.size := fun p hp => Heap.lt_size (N p hp).1
  refine wpAny_newObj_type (my_env1 hcf hpc ?_)
  dsimp only
  generalize hH1 : s.heap.push { cls := .type "list_iterator", data := .fields #[.ref l, .int 0 0] } = H1
  have hs1 : H1.objs.size = s.heap.objs.size + 1 := by rw [← hH1, Heap.size_push]
  generalize hH2 : H1.push { cls := .type "list", dict := none, data := .seq ([] : List Value).toArray } = H2
  have hs2 : H2.objs.size = s.heap.objs.size + 2 := by rw [← hH2, Heap.size_push, hs1]
  generalize hH3 : H2.push { cls := .type "dict", data := .dict #[] } = H3
  have hs3 : H3.objs.size = s.heap.objs.size + 3 := by rw [← hH3, Heap.size_push, hs2]
  generalize hH4 : H3.push { cls := .type "cell", data := .cell none } = H4
  have old : ∀ b o, s.heap.get? b = some o → H4.get? b = some o := fun b o e =>
    hH4 ▸ Heap.get?_push_of_some _ (hH3 ▸ Heap.get?_push_of_some _ (hH2 ▸ Heap.get?_push_of_some _ (hH1 ▸ Heap.get?_push_of_some _ e)))
  have gI : H4.get? s.heap.objs.size = some { cls := .type "list_iterator", data := .fields #[.ref l, .int 0 0] } :=
    hH4 ▸ Heap.get?_push_of_some _ (hH3 ▸ Heap.get?_push_of_some _ (hH2 ▸ Heap.get?_push_of_some _ (hH1 ▸ Heap.get?_push_size _ rfl)))
  have gD : H4.get? H1.objs.size = some (lst []) := hH4 ▸ Heap.get?_push_of_some _ (hH3 ▸ Heap.get?_push_of_some _ (hH2 ▸ Heap.get?_push_size _ rfl))
  have gC : H4.get? H2.objs.size = some { cls := .type "dict", data := .dict #[] } := hH4 ▸ Heap.get?_push_of_some _ (hH3 ▸ Heap.get?_push_size _ rfl)
  have gc : H4.get? (H2.objs.size + 1) = some { cls := .type "cell", data := .cell none } := by
    have : H2.objs.size + 1 = H3.objs.size := by rw [hs2, hs3]
    rw [this]
    exact hH4 ▸ Heap.get?_push_size _ rfl
  have fresh₀ : ∀ a, s.heap.objs.size ≤ a → h₀.get? a = none := fun a ha => by
    cases e : h₀.get? a with
    | none => rfl
    | some o' => exact absurd (Heap.lt_size (F.keep a o' e)) (Nat.not_lt.mpr ha)
  have hLlt : L < s.heap.objs.size := F.ns.lt
  have hDn : @Eq Nat H1.objs.size (s.heap.objs.size + 1) := hs1
  have hCn : @Eq Nat H2.objs.size (s.heap.objs.size + 2) := hs2
  have hID : s.heap.objs.size ≠ H1.objs.size := by rw [hs1]; exact Nat.ne_of_lt (Nat.lt_succ_self _)
  have nsC : NsObj { cls := .type "dict", data := .dict #[] } (fun _ => none) := by
    obtain ⟨o, e, hn⟩ := ns_obj (Heap.Ns.new H2 (.type "dict"))
    rw [Heap.get?_push_size _ rfl] at e
    cases e
    exact hn
  have hst₁ : H4.IsListIter s.heap.objs.size l 0 ∧ H4.IsList l vs.toArray := ⟨⟨_, gI, rfl, rfl⟩, hls.at (old l)⟩
  have hDC : H1.objs.size < H2.objs.size := by rw [hs1, hs2]; exact Nat.lt_succ_self _
  have hsD : s.heap.objs.size < H1.objs.size := by rw [hs1]; exact Nat.lt_succ_self _
  have hsC : s.heap.objs.size < H2.objs.size := Nat.lt_trans hsD hDC
  have hsc : s.heap.objs.size < H2.objs.size + 1 := Nat.lt_succ_of_lt hsC
  have hDc : H1.objs.size < H2.objs.size + 1 := Nat.lt_succ_of_lt hDC
  have loop : ∀ s₃ : Shared, s₃ = { s with heap := H4 } →
      codeAny (model prog w) A (.compLoop (.ListComp elt [⟨.Name x px, iter, [ct], 0⟩] scope pos) 0 (.ref s.heap.objs.size) (.ref H1.objs.size) (compEnvC scope ((x, H2.objs.size + 1) :: cl) H2.objs.size env)) (RR (.ref H1.objs.size) H2.objs.size) s₃ := by
    rintro s₃ rfl
    refine co_loop (h₀ := h₀) (L := L) (m := m) (cenv := compEnvC scope ((x, H2.objs.size + 1) :: cl) H2.objs.size env) W hsz (fun i h st => by obtain ⟨o, e, _⟩ := st.1; exact ⟨o, e⟩) (fun i s' v Q' E' st hq => letGo_listiter st.1 hq) (ZAny1 H2.objs.size) (ZAt1 H2.objs.size) (fun v X ⟨o, o2, e, h1, h2⟩ => ⟨o, o2, e, h1, _, h2⟩) P cst [(H2.objs.size, { cls := .type "dict", data := .dict #[] }), (H2.objs.size + 1, { cls := .type "cell", data := .cell none })] [H2.objs.size, H2.objs.size + 1] (fun X ⟨o, o2, e, _⟩ => by rw [e]; rfl)
      ?_ (Nat.ne_of_gt hLlt) (fresh₀ _ (Nat.le_refl _)) (Nat.ne_of_gt (Nat.lt_trans hLlt hsD)) (fresh₀ _ (Nat.le_of_lt hsD)) hID ?_ ?_ hst₁ (F.keeps old) ?_ ⟨_, _, rfl, nsC, _, rfl⟩ hp ?_ ?_ ?_
    · intro b hb
      rcases List.mem_cons.mp hb with rfl | hb
      · exact .inl rfl
      · rw [List.mem_singleton.mp hb]
        exact .inr ⟨ol, hl⟩
    · intro a ha
      rcases List.mem_cons.mp ha with rfl | ha
      · exact ⟨Nat.ne_of_gt (Nat.lt_trans hLlt hsC), fresh₀ _ (Nat.le_of_lt hsC), Nat.ne_of_gt hsC, Nat.ne_of_gt hDC⟩
      · rw [List.mem_singleton.mp ha]
        exact ⟨Nat.ne_of_gt (Nat.lt_trans hLlt hsc), fresh₀ _ (Nat.le_of_lt hsc), Nat.ne_of_gt hsc, Nat.ne_of_gt hDc⟩
    · intro p hp
      have hq := clt p hp
      refine ⟨Nat.ne_of_lt hq, Nat.ne_of_lt (Nat.lt_trans hq hsD), fun q => ?_⟩
      rcases List.mem_cons.mp q with q | q
      · rw [q] at hq; exact Nat.lt_irrefl _ (Nat.lt_trans hsC hq)
      · rw [List.mem_singleton.mp q] at hq; exact Nat.lt_irrefl _ (Nat.lt_trans hsc hq)
    · intro p hp
      rcases List.mem_cons.mp hp with rfl | hp
      · exact ⟨gD, Nat.ne_of_gt (Nat.lt_trans hLlt hsD), fresh₀ _ (Nat.le_of_lt hsD)⟩
      · rcases List.mem_cons.mp hp with rfl | hp
        · exact ⟨gC, Nat.ne_of_gt (Nat.lt_trans hLlt hsC), fresh₀ _ (Nat.le_of_lt hsC)⟩
        · rcases List.mem_cons.mp hp with rfl | hp
          · exact ⟨gc, Nat.ne_of_gt (Nat.lt_trans hLlt hsc), fresh₀ _ (Nat.le_of_lt hsc)⟩
          · exact ⟨old _ _ (N p hp).1, (N p hp).2⟩
    · rintro i v s' X oI ys pool Q' E' hPv ⟨oC', oc', rfl, hns, ov, hov⟩ N' kk
      have zc : s'.heap.get? (H2.objs.size + 1) = some oc' := (N' _ (.tail _ (.tail _ (.tail _ (.head _))))).1
      have zC : s'.heap.get? H2.objs.size = some oC' := (N' _ (.tail _ (.tail _ (.head _)))).1
      refine wpAny_assign_Name (wpAny_storeName_cell (c := H2.objs.size + 1) hkind (hx _ _) (by simp [compEnvC]) ⟨oc', zc, hov⟩ fun h' hv hs => ?_)
      obtain ⟨o', ho', hd'⟩ := hv
      refine kk h' _ [(H2.objs.size, oC'), (H2.objs.size + 1, o')] ⟨oC', o', rfl, hns, hd'⟩ (fun b o hb e => ?_) fun p hp => ?_
      · exact hs.extBut b o (fun q => hb (by rw [q]; exact .tail _ (.head _))) e
      · rcases List.mem_cons.mp hp with rfl | hp
        · exact hs.extBut _ _ (Nat.ne_of_lt (Nat.lt_succ_self _)) zC
        · rw [List.mem_singleton.mp hp]
          exact ho'
    · rintro i v ys pool X oI h tk E' hi hPv hP ⟨oC', oc', rfl, hns, hov⟩ hord F' N'
      exact turn i v ys pool _ oI _ _ oC' oc' h tk E' (by simpa using hPv) hP hns hov hsD hDC clt (fun p hp => hord p hp (_, oc') (.tail _ (.tail _ (.tail _ (.head _))))) F' N'
    · rintro ys pool X h tk hP ⟨oC', oc', rfl, hns, hov⟩ F' N' hpl
      refine hRR _ _ oC' _ oc' ys pool h tk hP hns (Nat.ne_of_gt (Nat.lt_trans hLlt hsC)) (Nat.ne_of_gt (Nat.lt_trans hLlt hsD)) (fun p hp => Nat.lt_trans (clt p hp) hsD) (fun p hp => ?_) hDC (fresh₀ _ (Nat.le_of_lt hsC)) (fresh₀ _ (Nat.le_of_lt hsD)) F' N'
      rcases List.mem_cons.mp hp with rfl | hp
      · exact ⟨hDc, Nat.lt_succ_self _⟩
      · exact ⟨(hpl p hp).1, (hpl p hp).2 _ (.head _)⟩
  exact codeAny_compStart_list (loop _ rfl) (W.self 0 _ _ _ hst₁ (loop _ rfl))
end
end
section
open PySem.Calls
set_option maxHeartbeats 0 in
theorem is_mask_within_does (w : World) (news : Led) (p q : Addr) (a b c d : Int) (ta tb tc td : Tok) (n k : Nat)
   (h1 : (p, tupObj [.int a ta, .int b tb] n) ∈ news) (h2 : (q, tupObj [.int c tc, .int d td] k) ∈ news) :
   Does w 1 8 43 news [.ref p, .ref q] (fun r news' => news' = news ∧ r = .bool (Builtin.bitAnd b d == d && Builtin.bitAnd a d == c)) := by
  k_with_none
  k_with "k_ne" => (refine neN ?_; (try dsimp only); first | with_reducible assumption | exact Ne.symm (by with_reducible assumption) | (refine Nat.ne_of_gt ?_; k_extra "lt") | (refine Nat.ne_of_lt ?_; k_extra "lt") | omega)
  k_with "lt" => first | with_reducible assumption | exact And.left (by with_reducible assumption) | exact And.left (And.right (by with_reducible assumption)) | exact And.left (And.right (And.right (by with_reducible assumption))) | exact And.left (And.right (And.right (And.right (by with_reducible assumption)))) | exact And.left (And.right (And.right (And.right (And.right (by with_reducible assumption))))) | exact And.left (And.right (And.right (And.right (And.right (And.right (by with_reducible assumption)))))) | exact And.left (And.right (And.right (And.right (And.right (And.right (And.right (by with_reducible assumption)))))))
  unfold Does
  k_fill
  intro mean mg mb dp un gd cn cs fa ccd cl outer A₀ base h₀ L m s Q E B F X N T hk hd hu hret
  refine wpAny_call ?_
  k_dflt ktr_enter
  k_steps
  all_goals (refine hret _ news _ _ (by k_asm) (by k_asm) ⟨rfl, ?_⟩; simp_all)
set_option maxHeartbeats 0 in
theorem do_masks_meet_does (w : World) (news : Led) (p q : Addr) (a b c d : Int) (ta tb tc td : Tok) (n k : Nat)
   (h1 : (p, tupObj [.int a ta, .int b tb] n) ∈ news) (h2 : (q, tupObj [.int c tc, .int d td] k) ∈ news) :
   Does w 1 8 50 news [.ref p, .ref q] (fun r news' => news' = news ∧ r = .bool (Builtin.bitAnd (Builtin.bitAnd (Builtin.bitXor a c) b) d == 0)) := by
  k_with_none
  k_with "k_ne" => (refine neN ?_; (try dsimp only); first | with_reducible assumption | exact Ne.symm (by with_reducible assumption) | (refine Nat.ne_of_gt ?_; k_extra "lt") | (refine Nat.ne_of_lt ?_; k_extra "lt") | omega)
  k_with "lt" => first | with_reducible assumption | exact And.left (by with_reducible assumption) | exact And.left (And.right (by with_reducible assumption)) | exact And.left (And.right (And.right (by with_reducible assumption))) | exact And.left (And.right (And.right (And.right (by with_reducible assumption)))) | exact And.left (And.right (And.right (And.right (And.right (by with_reducible assumption))))) | exact And.left (And.right (And.right (And.right (And.right (And.right (by with_reducible assumption)))))) | exact And.left (And.right (And.right (And.right (And.right (And.right (And.right (by with_reducible assumption)))))))
  unfold Does
  k_fill
  intro mean mg mb dp un gd cn cs fa ccd cl outer A₀ base h₀ L m s Q E B F X N T hk hd hu hret
  refine wpAny_call ?_
  k_dflt ktr_enter
  k_steps
  all_goals (refine hret _ news _ _ (by k_asm) (by k_asm) ⟨rfl, ?_⟩; simp_all)
end
section
open PySem.Calls
def shrink (l h : Int) (c : Int) : Nat → Int
  | 0 => c
  | n + 1 => if l + c - 1 > h then shrink l h (c / 2) n else c
def startAt (l : Int) : Int := if l > 0 then Builtin.bitAnd l (-l) else 8
def rmEighths (h : Int) : Nat → Int → List (Int × Int)
  | 0, _ => []
  | n + 1, l => if l ≤ h then (l, 8 - shrink l h (startAt l) 3) :: rmEighths h n (l + shrink l h (startAt l) 3) else []
def pairD (s : Int) (p : Int × Int) : Dat := .tuple [.int (p.1 * s), .int (p.2 * s)]
structure RmSt where
  l : Int
  t : Tok
  vs : List Value
  ds : List (Int × Int)
  n : Nat
  pool : Led
  ex : List (Str × Value)
def okSize (s : Int) : Prop := s = 1 ∨ s = 32 ∨ s = 512 ∨ s = 8192
theorem rm_half {s c : Int} (hs : okSize s) (hc : c = 8 ∨ c = 4 ∨ c = 2 ∨ c = 1) (h1 : c ≠ 1) : Int.fdiv (c * s) 2 = (c / 2) * s := by
  rcases hc with h | h | h | h <;> subst h <;> first | exact absurd rfl h1 | (rcases hs with h | h | h | h <;> subst h <;> rfl)
theorem rm_start {s l : Int} (hs : okSize s) (h : 0 < l * s) (h7 : l ≤ 7) : Builtin.bitAnd (l * s) (-(l * s)) = startAt l * s := by
  have hl : 0 < l := by rcases hs with h' | h' | h' | h' <;> subst h' <;> omega
  have : l = 1 ∨ l = 2 ∨ l = 3 ∨ l = 4 ∨ l = 5 ∨ l = 6 ∨ l = 7 := by omega
  rcases this with h' | h' | h' | h' | h' | h' | h' <;> subst h' <;> rcases hs with h' | h' | h' | h' <;> subst h' <;> decide +kernel
theorem start_pow {l : Int} (h0 : 0 ≤ l) (h7 : l ≤ 7) : startAt l = 8 ∨ startAt l = 4 ∨ startAt l = 2 ∨ startAt l = 1 := by
  have : l = 0 ∨ l = 1 ∨ l = 2 ∨ l = 3 ∨ l = 4 ∨ l = 5 ∨ l = 6 ∨ l = 7 := by omega
  rcases this with h' | h' | h' | h' | h' | h' | h' | h' <;> subst h' <;> decide +kernel
theorem sz_le {s a b : Int} (hs : 1 ≤ s) (h : a * s ≤ b * s + s - 1) : a ≤ b := by
  refine Int.le_of_lt_add_one (Int.not_le.mp fun h1 => ?_)
  have h2 := Int.mul_le_mul_of_nonneg_right h1 (Int.le_trans (by decide) hs)
  rw [Int.add_mul, Int.one_mul] at h2
  omega
theorem sz_nle {s a b : Int} (hs : 1 ≤ s) (h : ¬ a * s ≤ b * s + s - 1) : ¬ a ≤ b := fun h1 => by
  have h2 := Int.mul_le_mul_of_nonneg_right h1 (Int.le_trans (by decide) hs)
  omega
theorem sz_gt {s l c h : Int} (hs : 1 ≤ s) (H : l * s + c * s - 1 > h * s + s - 1) : l + c - 1 > h := by
  have h1 := sz_nle (a := l + c) (b := h) hs (by rw [Int.add_mul]; omega)
  refine Int.not_le.mp fun h2 => ?_
  have h3 : l + c ≤ h + 1 := by omega
  have h4 := Int.mul_le_mul_of_nonneg_right h3 (Int.le_trans (by decide) hs)
  rw [Int.add_mul, Int.add_mul, Int.one_mul] at h4
  omega
theorem sz_ngt {s l c h : Int} (hs : 1 ≤ s) (H : ¬ l * s + c * s - 1 > h * s + s - 1) : ¬ l + c - 1 > h := fun h1 => by
  have h3 : h + 1 ≤ l + c - 1 := h1
  have h4 := Int.mul_le_mul_of_nonneg_right (show h + 1 + 1 ≤ l + c by omega) (Int.le_trans (by decide) hs)
  rw [Int.add_mul, Int.add_mul, Int.add_mul, Int.one_mul] at h4
  omega
theorem start8 {s l : Int} (hs : 1 ≤ s) (h : ¬ 0 < l * s) : startAt l = 8 := by
  unfold startAt
  rw [if_neg]
  intro h1
  exact h (Int.mul_pos h1 (Int.lt_of_lt_of_le (by decide) hs))
theorem ds_snoc {α : Type} {ds tgt r : List α} {x : α} (h : ds ++ x :: r = tgt) : (ds ++ [x]) ++ r = tgt := by rw [← h]; simp
def bitsOf (s : Int) : Int := if s = 1 then 3 else if s = 32 then 8 else if s = 512 then 12 else 16
section
set_option maxHeartbeats 0 in
theorem range_masks_does (w : World) (news : Led) (lo hi sz bits : Int) (ta tb tc : Tok) (hs : okSize sz) (hb : bits = bitsOf sz) (h1 : 0 ≤ lo) (h2 : lo ≤ hi) (h3 : hi ≤ 7) :
   Does w 1 8 29 news [.int (lo * sz) ta, .int (hi * sz + sz - 1) tb, .int bits tc] (fun r news' => ∃ tl, news' = tl ++ news ∧ (∀ q ∈ news, ∀ p ∈ tl, q.1 < p.1) ∧ DatIn tl r (Dat.list ((rmEighths hi 8 lo).map (pairD sz)))) := by
  k_with_none
  k_with "k_ne" => (refine neN ?_; (try dsimp only); first | with_reducible assumption | exact Ne.symm (by with_reducible assumption) | (refine Nat.ne_of_gt ?_; k_extra "lt") | (refine Nat.ne_of_lt ?_; k_extra "lt") | omega)
  k_with "lt" => first | with_reducible assumption | exact And.left (by with_reducible assumption) | exact And.left (And.right (by with_reducible assumption)) | exact And.left (And.right (And.right (by with_reducible assumption))) | exact And.left (And.right (And.right (And.right (by with_reducible assumption)))) | exact And.left (And.right (And.right (And.right (And.right (by with_reducible assumption))))) | exact And.left (And.right (And.right (And.right (And.right (And.right (by with_reducible assumption)))))) | exact And.left (And.right (And.right (And.right (And.right (And.right (And.right (by with_reducible assumption)))))))
  k_with "exec While Compare cons nil" => refine Stop.go ?_
  k_with "WhPost" => (dsimp only [WhPost])
  have hbb : 0 ≤ bits ∧ bits ≤ 16 := by rcases hs with h | h | h | h <;> subst h <;> subst hb <;> decide
  obtain ⟨hb0, hb16⟩ := hbb
  have h8 : (1 * 2 ^ bits.toNat : Int) = 8 * sz := by rcases hs with h | h | h | h <;> subst h <;> subst hb <;> rfl
  have hsz : 1 ≤ sz ∧ sz ≤ 8192 := by rcases hs with h | h | h | h <;> omega
  unfold Does
  k_fill
  intro mean mg mb dp un gd cn cs fa ccd cl outer A₀ base h₀ L m s Q E B F X N T hk hd hu hret
  refine wpAny_call ?_
  k_dflt ktr_enter
  (rename Fr _ _ _ (fun _ => List.lookup _ _) => FE)
  replace FE := fr_entry (l' := [(Str.ofString "bits", .int bits tc), (Str.ofString "high", .int (hi * sz + sz - 1) tb), (Str.ofString "low", .int (lo * sz) ta)]) FE rfl
  k_steps
  rename_i g9 L9 h9 FG9 B9 X9 T9 l9 hh1 ll1 D9 hh2 ll2 hh3 hh4 hh5 F9 N9
  unfold Stop
  rw [h8] at F9 N9
  obtain ⟨tw, F9⟩ : ∃ tw, Fr g9 L9 hh5 (fr [(Str.ofString "found", .ref l9), (Str.ofString "whole", .int (8 * sz - 1) tw), (Str.ofString "bits", .int bits tc), (Str.ofString "high", .int (hi * sz + sz - 1) tb), (Str.ofString "low", .int (lo * sz) ta)]) := ⟨_, F9⟩
  with_unfolding_all refine my_while (σ := RmSt) (fun c => (l9, listOf c.vs.toArray c.n) :: (c.pool ++ news)) (fun c => (Str.ofString "low", .int (c.l * sz) c.t) :: (Str.ofString "high", .int (hi * sz + sz - 1) tb) :: (Str.ofString "bits", .int bits tc) :: (Str.ofString "found", .ref l9) :: (Str.ofString "whole", .int (8 * sz - 1) tw) :: c.ex) (fun c => DatAll c.pool c.vs (c.ds.map (pairD sz)) ∧ OwnOff (c.pool ++ news) [l9] ∧ (∀ q ∈ news, ∀ p ∈ c.pool, q.1 < p.1) ∧ c.vs.length = c.ds.length ∧ 0 ≤ c.l ∧ (∃ k : Nat, 8 - c.l ≤ k ∧ c.ds ++ rmEighths hi k c.l = rmEighths hi 8 lo) ∧ (c.ds.length : Int) ≤ c.l) (fun c => (8 - c.l).toNat) ⟨lo, ta, [], [], 0, [], []⟩ F9 N9 ?_ ?_ ?_ ?_
  · exact (by refine fr_ext [Str.ofString "low", Str.ofString "bits", Str.ofString "high", Str.ofString "found", Str.ofString "whole"] (by repeat (first | exact trivial | refine ⟨rfl, ?_⟩)) ?_; intro y hy; simp only [noneOf, and_true] at hy; simp only [fr, hy, if_false])
  · intro p hp
    simp only [List.nil_append, List.mem_cons] at hp ⊢
    exact hp.elim (fun e => .inr (.inl e)) fun e => .inr (.inr e)
  · exact ⟨DatAll.nil, (fun p hp b hb => by rw [List.mem_singleton.mp hb]; exact Nat.ne_of_lt (ll1 p hp)), (fun _ _ _ h => nomatch h), rfl, h1, ⟨8, by dsimp only; omega, rfl⟩, h1⟩
  rintro ⟨l, t, vs, ds, n, pool, ex⟩ h tk ⟨hD, hO, hlt, hlen, hl0, ⟨k, hk8, hkk⟩, hcnt⟩ F1 N1
  dsimp only at *
  clear N9 F9
  k_steps
  · rename_i ha1 ha2 hx F2 N2
    have hl7' : l ≤ hi := sz_le hsz.1 (by assumption)
    have hl7 : l ≤ 7 := Int.le_trans hl7' h3
    rw [rm_start hs ha2 hl7] at F2
    unfold Stop
    with_unfolding_all refine' my_while (σ := Int × Tok × List (Str × Value)) (fun _ => (l9, W.listOf vs.toArray n) :: (pool ++ news)) (fun c => (Str.ofString "size", .int (c.1 * sz) c.2.1) :: (Str.ofString "low", .int (l * sz) t) :: (Str.ofString "high", .int (hi * sz + sz - 1) tb) :: (Str.ofString "bits", .int bits tc) :: (Str.ofString "found", .ref l9) :: (Str.ofString "whole", .int (8 * sz - 1) tw) :: c.2.2) (fun c => (c.1 = 8 ∨ c.1 = 4 ∨ c.1 = 2 ∨ c.1 = 1) ∧ ∃ j : Nat, shrink l hi c.1 j = shrink l hi (startAt l) 3 ∧ c.1 ≤ 2 ^ j) (fun c => c.1.toNat) ⟨startAt l, ?tz2, ex⟩ F2 N2 ?ka2 (fun _ h => h) ?kb2 ?kc2
    case ka2 => rfl
    case kb2 => exact ⟨start_pow hl0 hl7, 3, rfl, by rcases start_pow hl0 hl7 with h' | h' | h' | h' <;> dsimp only <;> rw [h'] <;> decide⟩
    rintro ⟨c, t2, ex2⟩ h2 tk2 ⟨hc, j, hj, hcj⟩ F3 N3
    dsimp only at *
    clear F2 N2
    k_steps
    · rename_i hgt hx3 F4 N4
      have hgt' : l + c - 1 > hi := sz_gt hsz.1 hgt
      have hc1 : c ≠ 1 := fun e => by subst e; omega
      rw [rm_half hs hc hc1] at F4
      refine WhEnd.intro (c / 2, _, ex2) F4 N4 (by refine fr_ext [Str.ofString "size"] (by repeat (first | exact trivial | refine ⟨rfl, ?_⟩)) ?_; intro y hy; simp only [noneOf, and_true] at hy; simp only [fr, hy, if_false]) (fun p hp => hp) ?_ ?_
      · refine ⟨by dsimp only; omega, ?_⟩
        cases j with
        | zero => exact absurd hcj (by have : (2 : Int) ^ 0 = 1 := rfl; omega)
        | succ j =>
          refine ⟨j, ?_, ?_⟩
          · rw [← hj, shrink, if_pos hgt']
          · have : (2 : Int) ^ (j + 1) = 2 ^ j * 2 := Int.pow_succ 2 j
            dsimp only
            omega
      · dsimp only; omega
    · rename_i hle D3 hx3 hl3 hx4 hx5 F4 N4
      have hle' : ¬ (l + c - 1 > hi) := sz_ngt hsz.1 (by assumption)
      have hce : shrink l hi (startAt l) 3 = c := by
        rw [← hj]
        cases j with
        | zero => rfl
        | succ j => rw [shrink, if_neg hle']
      have e1 : l * sz + c * sz = (l + c) * sz := (Int.add_mul l c sz).symm
      have e2 : 8 * sz - 1 - (c * sz - 1) = (8 - c) * sz := by rw [Int.sub_mul]; omega
      rw [e1] at F4
      rw [e2, List.push_toArray] at N4
      obtain ⟨tu, N4⟩ : ∃ tu, News g9 L9 hx5 ((D3, tupObj [.int (l * sz) t, .int ((8 - c) * sz) tu] 0) :: (l9, listOf (vs ++ [Value.ref D3]).toArray (n + 1)) :: (pool ++ news)) := ⟨_, N4⟩
      refine WhEnd.intro ⟨l + c, _, vs ++ [Value.ref D3], ds ++ [(l, 8 - c)], n + 1, (D3, tupObj [.int (l * sz) t, .int ((8 - c) * sz) tu] 0) :: pool, (Str.ofString "size", .int (c * sz) t2) :: ex2⟩ F4 N4 (by refine fr_ext [Str.ofString "low", Str.ofString "size", Str.ofString "high", Str.ofString "bits", Str.ofString "found", Str.ofString "whole"] (by repeat (first | exact trivial | refine ⟨rfl, ?_⟩)) ?_; intro y hy; simp only [noneOf, and_true] at hy; simp only [fr, hy, if_false]) ?_ ?_ ?_
      · intro p hp
        simp only [List.mem_cons, List.mem_append] at hp ⊢
        rcases hp with hp | (hp | hp) | hp
        · exact .inr (.inl hp)
        · exact .inl hp
        · exact .inr (.inr (.inl hp))
        · exact .inr (.inr (.inr hp))
      · refine ⟨?_, ?_, ?_, by simp [hlen], by dsimp only; omega, ?_, by dsimp only; rw [List.length_append]; simp only [List.length_cons, List.length_nil]; omega⟩
        · rw [List.map_append]
          exact DatAll.append (hD.mono fun p hp => .tail _ hp) (DatAll.one (DatIn.tuple (vs := [_, _]) (.head _) (.cons (.int _ _) (.cons (.int _ _) .nil))))
        · intro p hp b hb
          rcases List.mem_cons.mp hp with rfl | hp
          · rw [List.mem_singleton.mp hb]
            exact Nat.ne_of_gt hl3.1
          · exact hO p hp b hb
        · intro q hq p hp
          rcases List.mem_cons.mp hp with rfl | hp
          · exact Nat.lt_trans (ll1 q hq) hl3.1
          · exact hlt q hq p hp
        · cases k with
          | zero => exact absurd hk8 (by omega)
          | succ k =>
            rw [rmEighths, if_pos hl7', hce] at hkk
            exact ⟨k, by dsimp only; omega, ds_snoc hkk⟩
      · dsimp only; omega
  · rename_i ha1 ha2 hx F2 N2
    have hl7' : l ≤ hi := sz_le hsz.1 (by assumption)
    have hl7 : l ≤ 7 := Int.le_trans hl7' h3
    (have e0 : startAt l = 8 := start8 hsz.1 ha2); rw [show (1 * 2 ^ bits.toNat : Int) = startAt l * sz by rw [h8, e0]] at F2
    unfold Stop
    with_unfolding_all refine' my_while (σ := Int × Tok × List (Str × Value)) (fun _ => (l9, W.listOf vs.toArray n) :: (pool ++ news)) (fun c => (Str.ofString "size", .int (c.1 * sz) c.2.1) :: (Str.ofString "low", .int (l * sz) t) :: (Str.ofString "high", .int (hi * sz + sz - 1) tb) :: (Str.ofString "bits", .int bits tc) :: (Str.ofString "found", .ref l9) :: (Str.ofString "whole", .int (8 * sz - 1) tw) :: c.2.2) (fun c => (c.1 = 8 ∨ c.1 = 4 ∨ c.1 = 2 ∨ c.1 = 1) ∧ ∃ j : Nat, shrink l hi c.1 j = shrink l hi (startAt l) 3 ∧ c.1 ≤ 2 ^ j) (fun c => c.1.toNat) ⟨startAt l, ?tz3, ex⟩ F2 N2 ?ka3 (fun _ h => h) ?kb3 ?kc3
    case ka3 => rfl
    case kb3 => exact ⟨start_pow hl0 hl7, 3, rfl, by rcases start_pow hl0 hl7 with h' | h' | h' | h' <;> dsimp only <;> rw [h'] <;> decide⟩
    rintro ⟨c, t2, ex2⟩ h2 tk2 ⟨hc, j, hj, hcj⟩ F3 N3
    dsimp only at *
    clear F2 N2
    k_steps
    · rename_i hgt hx3 F4 N4
      have hgt' : l + c - 1 > hi := sz_gt hsz.1 hgt
      have hc1 : c ≠ 1 := fun e => by subst e; omega
      rw [rm_half hs hc hc1] at F4
      refine WhEnd.intro (c / 2, _, ex2) F4 N4 (by refine fr_ext [Str.ofString "size"] (by repeat (first | exact trivial | refine ⟨rfl, ?_⟩)) ?_; intro y hy; simp only [noneOf, and_true] at hy; simp only [fr, hy, if_false]) (fun p hp => hp) ?_ ?_
      · refine ⟨by dsimp only; omega, ?_⟩
        cases j with
        | zero => exact absurd hcj (by have : (2 : Int) ^ 0 = 1 := rfl; omega)
        | succ j =>
          refine ⟨j, ?_, ?_⟩
          · rw [← hj, shrink, if_pos hgt']
          · have : (2 : Int) ^ (j + 1) = 2 ^ j * 2 := Int.pow_succ 2 j
            dsimp only
            omega
      · dsimp only; omega
    · rename_i hle D3 hx3 hl3 hx4 hx5 F4 N4
      have hle' : ¬ (l + c - 1 > hi) := sz_ngt hsz.1 (by assumption)
      have hce : shrink l hi (startAt l) 3 = c := by
        rw [← hj]
        cases j with
        | zero => rfl
        | succ j => rw [shrink, if_neg hle']
      have e1 : l * sz + c * sz = (l + c) * sz := (Int.add_mul l c sz).symm
      have e2 : 8 * sz - 1 - (c * sz - 1) = (8 - c) * sz := by rw [Int.sub_mul]; omega
      rw [e1] at F4
      rw [e2, List.push_toArray] at N4
      obtain ⟨tu, N4⟩ : ∃ tu, News g9 L9 hx5 ((D3, tupObj [.int (l * sz) t, .int ((8 - c) * sz) tu] 0) :: (l9, listOf (vs ++ [Value.ref D3]).toArray (n + 1)) :: (pool ++ news)) := ⟨_, N4⟩
      refine WhEnd.intro ⟨l + c, _, vs ++ [Value.ref D3], ds ++ [(l, 8 - c)], n + 1, (D3, tupObj [.int (l * sz) t, .int ((8 - c) * sz) tu] 0) :: pool, (Str.ofString "size", .int (c * sz) t2) :: ex2⟩ F4 N4 (by refine fr_ext [Str.ofString "low", Str.ofString "size", Str.ofString "high", Str.ofString "bits", Str.ofString "found", Str.ofString "whole"] (by repeat (first | exact trivial | refine ⟨rfl, ?_⟩)) ?_; intro y hy; simp only [noneOf, and_true] at hy; simp only [fr, hy, if_false]) ?_ ?_ ?_
      · intro p hp
        simp only [List.mem_cons, List.mem_append] at hp ⊢
        rcases hp with hp | (hp | hp) | hp
        · exact .inr (.inl hp)
        · exact .inl hp
        · exact .inr (.inr (.inl hp))
        · exact .inr (.inr (.inr hp))
      · refine ⟨?_, ?_, ?_, by simp [hlen], by dsimp only; omega, ?_, by dsimp only; rw [List.length_append]; simp only [List.length_cons, List.length_nil]; omega⟩
        · rw [List.map_append]
          exact DatAll.append (hD.mono fun p hp => .tail _ hp) (DatAll.one (DatIn.tuple (vs := [_, _]) (.head _) (.cons (.int _ _) (.cons (.int _ _) .nil))))
        · intro p hp b hb
          rcases List.mem_cons.mp hp with rfl | hp
          · rw [List.mem_singleton.mp hb]
            exact Nat.ne_of_gt hl3.1
          · exact hO p hp b hb
        · intro q hq p hp
          rcases List.mem_cons.mp hp with rfl | hp
          · exact Nat.lt_trans (ll1 q hq) hl3.1
          · exact hlt q hq p hp
        · cases k with
          | zero => exact absurd hk8 (by omega)
          | succ k =>
            rw [rmEighths, if_pos hl7', hce] at hkk
            exact ⟨k, by dsimp only; omega, ds_snoc hkk⟩
      · dsimp only; omega
  · rename_i hgt kF kN Tc kX
    have hl7' : ¬ l ≤ hi := sz_nle hsz.1 hgt
    have hfin : ds = rmEighths hi 8 lo := by
      rw [← hkk]
      cases k with
      | zero => rw [rmEighths, List.append_nil]
      | succ k => rw [rmEighths, if_neg hl7', List.append_nil]
    refine hret _ (((l9, listOf vs.toArray n) :: pool) ++ news) _ _ kF kN ⟨_, rfl, ?_, ?_⟩
    · intro q hq p hp
      rcases List.mem_cons.mp hp with rfl | hp
      · exact ll1 q hq
      · exact hlt q hq p hp
    · rw [← hfin]
      exact DatIn.list (.head _) (hD.mono fun p hp => .tail _ hp)
end
end
section
open PySem.Calls
theorem Does.use {w : World} {D U : Nat} {f : Addr} {news : Led} {vs : List Value} {Post : Value → Led → Prop} (C : Does w D U f news vs Post)
    {mean : ExcName → Option Value} {mg mb : Str → Option Value} {dp un : Nat} {gd : Option (List Code)} {cn : Str} {cs : Scope} {a : Addr} {ccd : Value} {cl : List (Str × Addr)} {outer : List Env} {A₀ : Around} {base h₀ : Heap} {L : Addr} {m : Str → Option Value} {s : Shared} {Q E : Value → Shared → Prop}
    (uB : Below A₀ base outer h₀) (uF : Fr h₀ L s.heap m) (uX : (hd.heap_1 w.params).In h₀) (uN : News h₀ L s.heap news) (uT : Top hd.view_1 (looseW hd.view_1 [Str.ofString "SettingError"]) mean mg mb h₀) (uK : cs.kind = .function)
    (uD : dp + D < recursionLimit) (uU : un + U < cLine)
    (ret : ∀ r news' h' tk', Fr h₀ L h' m → News h₀ L h' news' → Post r news' → Q r { s with heap := h', toks := tk' }) :
    wpAny (model PySem.Challenge.rw_xm0981_01.row.prog w) (ktrTop dp un gd cn cs L a ccd cl outer) (call (.ref f) vs) Q E s := C mean mg mb dp un gd cn cs a ccd cl outer A₀ base h₀ L m s Q E uB uF uX uN uT uK uD uU ret

inductive Wish where
  | mask (v m : Int)
  | range (l h : Int)
def Wish.ok : Wish → Prop
  | .mask v m => 0 ≤ v ∧ v ≤ 7 ∧ 0 ≤ m ∧ m ≤ 7 ∧ Builtin.bitAnd v m = v
  | .range l h => 0 ≤ l ∧ l ≤ h ∧ h ≤ 7
def wishD (s : Int) : Wish → Dat
  | .mask v m => .tuple [.str (Str.ofString "mask"), .int (v * s), .int (m * s)]
  | .range l h => .tuple [.str (Str.ofString "range"), .int (l * s), .int (h * s + s - 1)]
def rowsOf : Wish → List (Int × Int)
  | .mask v m => [(v, m)]
  | .range l h => rmEighths h 8 l
theorem wish_inv {news : Led} {v : Value} {x : Str} {a b : Int} (h : DatIn news v (.tuple [.str x, .int a, .int b])) : ∃ t n ta tb tc, v = .ref t ∧ (t, tupObj [.str x ta, .int a tb, .int b tc] n) ∈ news := by
  cases h with
  | tuple hm hall =>
    cases hall with
    | cons h1 hall =>
      cases hall with
      | cons h2 hall =>
        cases hall with
        | cons h3 hall =>
          cases hall
          cases h1
          cases h2
          cases h3
          exact ⟨_, _, _, _, _, rfl, hm⟩
theorem pair_inv {news : Led} {v : Value} {a b : Int} (h : DatIn news v (.tuple [.int a, .int b])) : ∃ t n ta tb, v = .ref t ∧ (t, tupObj [.int a ta, .int b tb] n) ∈ news := by
  cases h with
  | tuple hm hall =>
    cases hall with
    | cons h1 hall =>
      cases hall with
      | cons h2 hall =>
        cases hall
        cases h1
        cases h2
        exact ⟨_, _, _, _, rfl, hm⟩
section
variable {prog : Program} {w : World} {A : Around} {E : Value → Shared → Prop} {s : Shared} {h₀ : Heap} {L : Addr} {m : Str → Option Value} {news : Led}
theorem my_slice1 {value slice : Expr} {t : Addr} {x : Value} {r : List Value} {n : Nat} {u : Tok} {Q : Value → Shared → Prop} (F : Fr h₀ L s.heap m) (N : News h₀ L s.heap news) (ht : (t, tupObj (x :: r) n) ∈ news) (hr : r.length < 1000)
    (h : ∀ D h', Fr h₀ L h' m → News h₀ L h' ((D, tupObj r 0) :: news) → (∀ p ∈ news, p.1 < D) → Q (.ref D) { s with heap := h' })
    (hs : subscripted slice false (.ref t) (.ref s.heap.objs.size) = operate [.ref s.heap.objs.size, .ref t] (getItem (.ref t) (.ref s.heap.objs.size)) := by with_unfolding_all rfl)
    (hg : ∀ r, letTemporaryGo value (.ref t) r = pure () := by intro _; with_unfolding_all rfl) :
    wpAny (model prog w) A (subscriptTail value slice (.ref t) (.ref s.heap.objs.size)) Q E { s with heap := s.heap.push { cls := .type "slice", data := .fields #[.int 1 u, .none, .none] } } := by
  refine slice_tuple_from (a := 1) F N (items := (x :: r).toArray) ⟨_, (N _ ht).1, rfl, n, rfl⟩ (by decide) (by simp) (fun h' F' N' => ?_) hs hg (by rw [List.size_toArray, List.length_cons, sizeLine_eq]; omega)
  exact h _ h' F' N' fun p hp => Nat.lt_succ_of_lt (Heap.lt_size (N p hp).1)
end
section
set_option maxHeartbeats 0 in
theorem wish_masks_does (w : World) (news : Led) (v : Value) (W : Wish) (sz bits : Int) (tb : Tok) (hs : okSize sz) (hb : bits = bitsOf sz) (hW : W.ok) (hD : DatIn news v (wishD sz W)) :
   Does w 2 16 36 news [v, .int bits tb] (fun r news' => ∃ tl, news' = tl ++ news ∧ (∀ q ∈ news, ∀ p ∈ tl, q.1 < p.1) ∧ DatIn tl r (Dat.list ((rowsOf W).map (pairD sz)))) := by
  k_with_none
  k_with "k_ne" => (refine neN ?_; (try dsimp only); first | with_reducible assumption | exact Ne.symm (by with_reducible assumption) | (refine Nat.ne_of_gt ?_; k_extra "lt") | (refine Nat.ne_of_lt ?_; k_extra "lt") | omega)
  k_with "lt" => first | with_reducible assumption | exact And.left (by with_reducible assumption) | exact And.left (And.right (by with_reducible assumption)) | exact And.left (And.right (And.right (by with_reducible assumption))) | exact And.left (And.right (And.right (And.right (by with_reducible assumption)))) | exact And.left (And.right (And.right (And.right (And.right (by with_reducible assumption))))) | exact And.left (And.right (And.right (And.right (And.right (And.right (by with_reducible assumption)))))) | exact And.left (And.right (And.right (And.right (And.right (And.right (And.right (by with_reducible assumption)))))))
  k_with "call ref" => (k_here; (with_reducible show wpAny _ _ (call (Value.ref 29) _ _) _ _ _); (refine' Does.use (range_masks_does _ _ _ _ _ _ _ _ _ (by assumption) (by assumption) (by assumption) (by assumption) (by assumption)) ?zuB9 ?zuF9 ?zuX9 ?zuN9 ?zuT9 ?zuK9 ?zuD9 ?zuU9 ?_); (case zuB9 => first | k_asm | ktn_no "use: the frames below"); (case zuF9 => first | k_asm | ktn_no "use: the frame"); (case zuX9 => first | k_asm | ktn_no "use: the written part"); (case zuN9 => first | k_asm | ktn_no "use: the ledger"); (case zuT9 => first | k_asm | ktn_no "use: the top"); (case zuK9 => first | exact rfl | assumption | ktn_no "use: the caller"); (case zuD9 => first | ktr_room | ktn_no "use: room"); (case zuU9 => first | ktr_units | ktn_no "use: units"); intro _ _ _ _ _ _ hp9; obtain ⟨_, e9, _, _⟩ := hp9; subst e9; (try dsimp only))
  k_with "subscriptTail Name Slice ref ref" => (k_here; (with_reducible show wpAny _ _ (subscriptTail _ (PySem.Expr.Slice _ _ none _) (Value.ref _) (Value.ref _)) _ _ _); k_dflt (refine' my_slice1 ?zF9 ?zN9 ?zt9 ?zr9 ?_ ?zs9 ?zg9; (case zF9 => k_asm); (case zN9 => k_asm); (case zt9 => k_mem); (case zr9 => simp); (case zs9 => with_unfolding_all rfl); (case zg9 => (intro _; with_unfolding_all rfl))); intro _ _ _ _ l1; (try k_lt l1); revert l1; intro _; (try k_sweep))
  cases W with
  | mask x mk =>
    obtain ⟨t, n, t1, t2, t3, rfl, hm⟩ := wish_inv hD
    unfold Does
    k_fill
    intro mean mg mb dp un gd cn cs fa ccd cl outer A₀ base h₀ L m s Q E B F X N T hk hd hu hret
    refine wpAny_call ?_
    k_dflt ktr_enter
    k_steps
    rename_i a9 h9 l9 b9 h8 F8 N8 l8 kF kN Tc kX
    refine hret _ ([(b9, W.listOf [Value.ref a9].toArray 0), (a9, tupObj [.int (x * sz) t2, .int (mk * sz) t3] 0)] ++ news) _ _ kF kN ⟨_, rfl, ?_, ?_⟩
    · intro q hq p hp
      have h1 := l9 q hq
      rcases List.mem_cons.mp hp with rfl | hp
      · exact Nat.lt_trans h1 l8.1
      · rw [List.mem_singleton.mp hp]
        exact h1
    · exact DatIn.list (.head _) (DatAll.one (DatIn.tuple (vs := [_, _]) (.tail _ (.head _)) (.cons (.int _ _) (.cons (.int _ _) .nil))))
  | range l h =>
    obtain ⟨t, n, t1, t2, t3, rfl, hm⟩ := wish_inv hD
    obtain ⟨hl0, hlh, hh7⟩ := hW
    unfold Does
    k_fill
    intro mean mg mb dp un gd cn cs fa ccd cl outer A₀ base h₀ L m s Q E B F X N T hk hd hu hret
    refine wpAny_call ?_
    k_dflt ktr_enter
    k_steps
    exact hret _ _ _ _ (by k_asm) (by k_asm) ⟨_, rfl, by assumption, by assumption⟩
end
end
section
open PySem.Calls
def endsOf (s : Int) : Wish → Int × Int
  | .mask v m => (v * s, v * s + (8 * s - 1 - m * s))
  | .range l h => (l * s, h * s + s - 1)
section
set_option maxHeartbeats 0 in
theorem wish_ends_does (w : World) (news : Led) (v : Value) (W : Wish) (sz bits : Int) (tb : Tok) (hs : okSize sz) (hb : bits = bitsOf sz) (hD : DatIn news v (wishD sz W)) :
   Does w 1 8 57 news [v, .int bits tb] (fun r news' => ∃ t ta tb n tl, news' = ((t, tupObj [.int (endsOf sz W).1 ta, .int (endsOf sz W).2 tb] n) :: tl) ++ news ∧ r = .ref t) := by
  k_with_none
  k_with "k_ne" => (refine neN ?_; (try dsimp only); first | with_reducible assumption | exact Ne.symm (by with_reducible assumption) | (refine Nat.ne_of_gt ?_; k_extra "lt") | (refine Nat.ne_of_lt ?_; k_extra "lt") | omega)
  k_with "lt" => first | with_reducible assumption | exact And.left (by with_reducible assumption) | exact And.left (And.right (by with_reducible assumption)) | exact And.left (And.right (And.right (by with_reducible assumption))) | exact And.left (And.right (And.right (And.right (by with_reducible assumption)))) | exact And.left (And.right (And.right (And.right (And.right (by with_reducible assumption))))) | exact And.left (And.right (And.right (And.right (And.right (And.right (by with_reducible assumption)))))) | exact And.left (And.right (And.right (And.right (And.right (And.right (And.right (by with_reducible assumption)))))))
  k_with "subscriptTail Name Slice ref ref" => (k_here; (with_reducible show wpAny _ _ (subscriptTail _ (PySem.Expr.Slice _ _ none _) (Value.ref _) (Value.ref _)) _ _ _); k_dflt (refine' my_slice1 ?zF9 ?zN9 ?zt9 ?zr9 ?_ ?zs9 ?zg9; (case zF9 => k_asm); (case zN9 => k_asm); (case zt9 => k_mem); (case zr9 => simp); (case zs9 => with_unfolding_all rfl); (case zg9 => (intro _; with_unfolding_all rfl))); intro _ _ _ _ l1; (try k_lt l1); revert l1; intro _; (try k_sweep))
  have hbb : 0 ≤ bits ∧ bits ≤ 16 := by rcases hs with h | h | h | h <;> subst h <;> subst hb <;> decide
  obtain ⟨hb0, hb16⟩ := hbb
  have h8 : (1 * 2 ^ bits.toNat : Int) = 8 * sz := by rcases hs with h | h | h | h <;> subst h <;> subst hb <;> rfl
  cases W with
  | mask x mk =>
    obtain ⟨t, n, t1, t2, t3, rfl, hm⟩ := wish_inv hD
    unfold Does
    k_fill
    intro mean mg mb dp un gd cn cs fa ccd cl outer A₀ base h₀ L m s Q E B F X N T hk hd hu hret
    refine wpAny_call ?_
    k_dflt ktr_enter
    k_steps
    rename News h₀ _ _ _ => kN
    rename Fr h₀ _ _ _ => kF
    rw [h8] at kN
    exact hret _ _ _ _ kF kN ⟨_, _, _, _, [], rfl, rfl⟩
  | range l h =>
    obtain ⟨t, n, t1, t2, t3, rfl, hm⟩ := wish_inv hD
    unfold Does
    k_fill
    intro mean mg mb dp un gd cn cs fa ccd cl outer A₀ base h₀ L m s Q E B F X N T hk hd hu hret
    refine wpAny_call ?_
    k_dflt ktr_enter
    k_steps
    exact hret _ _ _ _ (by k_asm) (by k_asm) ⟨_, _, _, _, [], rfl, rfl⟩
end
theorem list_inv {news : Led} {v : Value} {ds : List Dat} (h : DatIn news v (.list ds)) : ∃ l vs n, v = .ref l ∧ (l, W.listOf vs.toArray n) ∈ news ∧ DatAll news vs ds := by
  cases h with
  | list hm hall => exact ⟨_, _, _, rfl, hm, hall⟩
theorem tuple_inv {news : Led} {v : Value} {ds : List Dat} (h : DatIn news v (.tuple ds)) : ∃ l vs n, v = .ref l ∧ (l, tupObj vs n) ∈ news ∧ DatAll news vs ds := by
  cases h with
  | tuple hm hall => exact ⟨_, _, _, rfl, hm, hall⟩
def withinS (s : Int) (W1 : Wish) : Wish → Bool
  | .range l h => decide (l * s ≤ (endsOf s W1).1) && decide ((endsOf s W1).2 ≤ h * s + s - 1)
  | .mask v m => (rowsOf W1).all fun p => Builtin.bitAnd (p.2 * s) (m * s) == m * s && Builtin.bitAnd (p.1 * s) (m * s) == v * s
theorem all_take {α : Type} {f : α → Bool} {l : List α} {i : Nat} {x : α} (h : (l.take i).all f = true) (hx : l[i]? = some x) (hf : f x = true) : (l.take (i + 1)).all f = true := by
  rw [List.take_add_one, hx, List.all_append, h]
  simp [hf]
theorem all_false {α : Type} {f : α → Bool} {l : List α} {i : Nat} {x : α} (hx : l[i]? = some x) (hf : f x = false) : l.all f = false := by
  rw [List.all_eq_false]
  exact ⟨x, List.mem_of_getElem? hx, by simp [hf]⟩
theorem dat_at {news : Led} {vs : List Value} {l : List (Int × Int)} {s : Int} {i : Nat} {v : Value} (h : DatAll news vs (l.map (pairD s))) (hv : vs[i]? = some v) : ∃ p, l[i]? = some p ∧ ∃ t n ta tb, v = .ref t ∧ (t, tupObj [.int (p.1 * s) ta, .int (p.2 * s) tb] n) ∈ news := by
  have hi : i < (l.map (pairD s)).length := by rw [← h.length]; exact (List.getElem?_eq_some_iff.mp hv).1
  obtain ⟨v', hv', hD⟩ := h.get hi
  rw [hv] at hv'
  cases hv'
  have hi' : i < l.length := by simpa using hi
  refine ⟨l[i], by simp, ?_⟩
  rw [List.getElem_map] at hD
  exact pair_inv hD
section
set_option maxHeartbeats 0 in
theorem is_wish_within_does (w : World) (news : Led) (v1 v2 : Value) (W1 W2 : Wish) (sz bits : Int) (tb : Tok) (hs : okSize sz) (hb : bits = bitsOf sz) (hW1 : W1.ok) (hD1 : DatIn news v1 (wishD sz W1)) (hD2 : DatIn news v2 (wishD sz W2)) :
   Does w 3 24 64 news [v1, v2, .int bits tb] (fun r news' => news' = news ∧ r = .bool (withinS sz W1 W2)) := by
  k_with_none
  k_with "k_ne" => (refine neN ?_; (try dsimp only); first | with_reducible assumption | exact Ne.symm (by with_reducible assumption) | (refine Nat.ne_of_gt ?_; k_extra "lt") | (refine Nat.ne_of_lt ?_; k_extra "lt") | omega)
  k_with "lt" => first | with_reducible assumption | exact And.left (by with_reducible assumption) | exact And.left (And.right (by with_reducible assumption)) | exact And.left (And.right (And.right (by with_reducible assumption))) | exact And.left (And.right (And.right (And.right (by with_reducible assumption)))) | exact And.left (And.right (And.right (And.right (And.right (by with_reducible assumption))))) | exact And.left (And.right (And.right (And.right (And.right (And.right (by with_reducible assumption)))))) | exact And.left (And.right (And.right (And.right (And.right (And.right (And.right (by with_reducible assumption)))))))
  k_with "subscriptTail Name Slice ref ref" => (k_here; (with_reducible show wpAny _ _ (subscriptTail _ (PySem.Expr.Slice _ _ none _) (Value.ref _) (Value.ref _)) _ _ _); k_dflt (refine' my_slice1 ?zF9 ?zN9 ?zt9 ?zr9 ?_ ?zs9 ?zg9; (case zF9 => k_asm); (case zN9 => k_asm); (case zt9 => k_mem); (case zr9 => simp); (case zs9 => with_unfolding_all rfl); (case zg9 => (intro _; with_unfolding_all rfl))); intro _ _ _ _ l1; (try k_lt l1); revert l1; intro _; (try k_sweep))
  k_with "exec For Name Call cons nil" => k_dflt (refine wpAny_For ?_ (by intro _; rfl))
  k_with "exec For Tuple Name cons nil" => k_dflt (refine wpAny_For ?_ (by intro _; rfl))
  k_with "pyIter ref" => refine Stop.go ?_
  k_with "FoPost" => (dsimp only [FoPost])
  k_with "call ref" => (k_here; (with_reducible show wpAny _ _ (call (Value.ref 36) _ _) _ _ _); (refine' Does.use (wish_masks_does _ _ _ _ _ _ _ (by assumption) (by assumption) (by assumption) ?zuc9) ?zuB9 ?zuF9 ?zuX9 ?zuN9 ?zuT9 ?zuK9 ?zuD9 ?zuU9 ?_); (case zuB9 => first | k_asm | ktn_no "use: the frames below"); (case zuF9 => first | k_asm | ktn_no "use: the frame"); (case zuX9 => first | k_asm | ktn_no "use: the written part"); (case zuN9 => first | k_asm | ktn_no "use: the ledger"); (case zuT9 => first | k_asm | ktn_no "use: the top"); (case zuK9 => first | exact rfl | assumption | ktn_no "use: the caller"); (case zuD9 => first | ktr_room | ktn_no "use: room"); (case zuU9 => first | ktr_units | ktn_no "use: units"); (case zuc9 => first | assumption | (refine' DatIn.mono ?zum9 ?zud9; (case zud9 => assumption); (case zum9 => (intro p9 h9; simp [h9])))); intro _ _ _ _ _ _ hp9; obtain ⟨_, e9, _, _⟩ := hp9; subst e9; obtain ⟨_, _, _, er9, _, _⟩ := list_inv (by assumption); subst er9; (try dsimp only))
  k_with "call ref" => (k_here; (with_reducible show wpAny _ _ (call (Value.ref 57) _ _) _ _ _); (refine' Does.use (wish_ends_does _ _ _ _ _ _ _ (by assumption) (by assumption) ?zuc9) ?zuB9 ?zuF9 ?zuX9 ?zuN9 ?zuT9 ?zuK9 ?zuD9 ?zuU9 ?_); (case zuB9 => first | k_asm | ktn_no "use: the frames below"); (case zuF9 => first | k_asm | ktn_no "use: the frame"); (case zuX9 => first | k_asm | ktn_no "use: the written part"); (case zuN9 => first | k_asm | ktn_no "use: the ledger"); (case zuT9 => first | k_asm | ktn_no "use: the top"); (case zuK9 => first | exact rfl | assumption | ktn_no "use: the caller"); (case zuD9 => first | ktr_room | ktn_no "use: room"); (case zuU9 => first | ktr_units | ktn_no "use: units"); (case zuc9 => first | assumption | (refine' DatIn.mono ?zum9 ?zud9; (case zud9 => assumption); (case zum9 => (intro p9 h9; simp [h9])))); intro _ _ _ _ _ _ hp9; obtain ⟨_, _, _, _, _, e9, er9⟩ := hp9; subst e9; subst er9; (try dsimp only))
  k_with "call ref" => (k_here; (with_reducible show wpAny _ _ (call (Value.ref 43) _ _) _ _ _); (refine' Does.use (is_mask_within_does _ _ _ _ _ _ _ _ _ _ _ _ _ _ ?zua9 ?zub9) ?zuB9 ?zuF9 ?zuX9 ?zuN9 ?zuT9 ?zuK9 ?zuD9 ?zuU9 ?_); (case zuB9 => first | k_asm | ktn_no "use: the frames below"); (case zuF9 => first | k_asm | ktn_no "use: the frame"); (case zuX9 => first | k_asm | ktn_no "use: the written part"); (case zuN9 => first | k_asm | ktn_no "use: the ledger"); (case zuT9 => first | k_asm | ktn_no "use: the top"); (case zuK9 => first | exact rfl | assumption | ktn_no "use: the caller"); (case zuD9 => first | ktr_room | ktn_no "use: room"); (case zuU9 => first | ktr_units | ktn_no "use: units"); (case zua9 => k_mem); (case zub9 => k_mem); intro _ _ _ _ _ _ hp9; obtain ⟨e9, er9⟩ := hp9; subst e9; subst er9; (try dsimp only))
  cases W2 with
  | range l h =>
    obtain ⟨t, n, t1, t2, t3, rfl, hm⟩ := wish_inv hD2
    unfold Does
    k_fill
    intro mean mg mb dp un gd cn cs fa ccd cl outer A₀ base h₀ L m s Q E B F X N T hk hd hu hret
    refine wpAny_call ?_
    k_dflt ktr_enter
    k_steps
    · refine hret _ news _ _ (by k_asm) (fun p hp => ?_) ⟨rfl, ?_⟩
      · rename News h₀ _ _ _ => kN
        exact kN p (by simp [hp])
      · simp_all [withinS]
    · refine hret _ news _ _ (by k_asm) (fun p hp => ?_) ⟨rfl, ?_⟩
      · rename News h₀ _ _ _ => kN
        exact kN p (by simp [hp])
      · rename ¬ _ => hn
        simp [withinS, hn]
  | mask x mk =>
    obtain ⟨t, n, t1, t2, t3, rfl, hm⟩ := wish_inv hD2
    unfold Does
    k_fill
    intro mean mg mb dp un gd cn cs fa ccd cl outer A₀ base h₀ L m s Q E B F X N T hk hd hu hret
    refine wpAny_call ?_
    k_dflt ktr_enter
    (rename Fr _ _ _ (fun _ => List.lookup _ _) => FE)
    replace FE := fr_entry (l' := [(Str.ofString "bits", .int bits tb), (Str.ofString "other", .ref t), (Str.ofString "one", v1)]) FE rfl
    k_steps
    unfold Stop
    rename_i h8 t8 F9 tl9 hl9 N9 l9 vs9 n9 hm9 ha9 hd9
    with_unfolding_all refine my_for_seq (σ := List (Str × Value)) (.inl rfl) rfl (fun _ => tl9 ++ news) (fun c => (Str.ofString "bits", .int bits tb) :: (Str.ofString "other", .ref t) :: (Str.ofString "one", v1) :: c) (fun i _ => ((rowsOf W1).take i).all (fun p => Builtin.bitAnd (p.2 * sz) (mk * sz) == mk * sz && Builtin.bitAnd (p.1 * sz) (mk * sz) == x * sz) = true) [] (by rfl) F9 N9 rfl (fun _ h => h) (fun _ _ _ => List.mem_append.mpr (.inl hm9)) rfl ?_ ?_
    · intro i c v I oI h tk hv hP hoff F1 N1
      obtain ⟨p, hp, t', n', ta, tb', rfl, hm'⟩ := dat_at ha9 hv
      refine wpAny_assign_Name ?_
      clear F9 N9
      dsimp only at F1 N1 ⊢
      k_steps
      · rename_i h9 t9 F8 N8 hok
        refine FoEnd.intro ((Str.ofString "row", .ref t') :: c) F8 N8 (by refine fr_ext [Str.ofString "row", Str.ofString "bits", Str.ofString "other", Str.ofString "one"] (by repeat (first | exact trivial | refine ⟨rfl, ?_⟩)) ?_; intro y hy; simp only [noneOf, and_true] at hy; simp only [fr, hy, if_false]) (fun p hp => .tail _ (.tail _ hp)) (.tail _ (.head _)) (fun p hp => .inl ⟨p, hp, rfl⟩) (all_take hP hp hok)
      · rename_i hno kF kN Tc kX
        exact hret _ news _ _ kF (fun p hp => kN p (by simp [hp])) ⟨rfl, by rw [withinS, all_false hp hno]⟩
    · intro c h tk hP F1 N1
      clear F9 N9
      dsimp only at F1 N1 hP ⊢
      k_steps
      rename_i kF kN Tc kX
      have hlen : vs9.length = (rowsOf W1).length := by rw [ha9.length, List.length_map]
      rw [hlen, List.take_length] at hP
      refine hret _ news _ _ kF (fun p hp => kN p (by simp [hp])) ⟨rfl, ?_⟩
      rw [withinS, hP]
end
end
section
open PySem.Calls
def kindS : Wish → Str
  | .mask _ _ => Str.ofString "mask"
  | .range _ _ => Str.ofString "range"
def aOf (s : Int) : Wish → Int
  | .mask v _ => v * s
  | .range l _ => l * s
def bOf (s : Int) : Wish → Int
  | .mask _ m => m * s
  | .range _ h => h * s + s - 1
theorem wish_inv' {news : Led} {v : Value} {s : Int} {W : Wish} (h : DatIn news v (wishD s W)) : ∃ t n ta tb tc, v = .ref t ∧ (t, tupObj [.str (kindS W) ta, .int (aOf s W) tb, .int (bOf s W) tc] n) ∈ news := by
  cases W with
  | mask x m => exact wish_inv h
  | range x m => exact wish_inv h
def isRange : Wish → Bool
  | .mask _ _ => false
  | .range _ _ => true
def meetRows (s : Int) (p q : Int × Int) : Bool := Builtin.bitAnd (Builtin.bitAnd (Builtin.bitXor (p.1 * s) (q.1 * s)) (p.2 * s)) (q.2 * s) == 0
def meetsS (s : Int) (W1 W2 : Wish) : Bool :=
  if isRange W1 && isRange W2 then decide (aOf s W1 ≤ bOf s W2) && decide (aOf s W2 ≤ bOf s W1)
  else (rowsOf W1).any fun p => (rowsOf W2).any fun q => meetRows s p q
theorem kind_range {W : Wish} : kindS W = Str.ofString "range" ↔ isRange W = true := by
  cases W with
  | mask _ _ => simp only [kindS, isRange]; decide
  | range _ _ => simp only [kindS, isRange]
theorem any_take {α : Type} {f : α → Bool} {l : List α} {i : Nat} {x : α} (h : (l.take i).any f = false) (hx : l[i]? = some x) (hf : f x = false) : (l.take (i + 1)).any f = false := by
  rw [List.take_add_one, hx, List.any_append, h]
  simp [hf]
theorem any_true {α : Type} {f : α → Bool} {l : List α} {i : Nat} {x : α} (hx : l[i]? = some x) (hf : f x = true) : l.any f = true := by
  rw [List.any_eq_true]
  exact ⟨x, List.mem_of_getElem? hx, hf⟩
section
set_option maxHeartbeats 0 in
theorem do_wishes_meet_does (w : World) (news : Led) (v1 v2 : Value) (W1 W2 : Wish) (sz bits : Int) (tb : Tok) (hs : okSize sz) (hb : bits = bitsOf sz) (hW1 : W1.ok) (hW2 : W2.ok) (hD1 : DatIn news v1 (wishD sz W1)) (hD2 : DatIn news v2 (wishD sz W2)) :
   Does w 3 24 71 news [v1, v2, .int bits tb] (fun r news' => news' = news ∧ r = .bool (meetsS sz W1 W2)) := by
  k_with_none
  k_with "k_ne" => (refine neN ?_; (try dsimp only); first | with_reducible assumption | exact Ne.symm (by with_reducible assumption) | (refine Nat.ne_of_gt ?_; k_extra "lt") | (refine Nat.ne_of_lt ?_; k_extra "lt") | omega)
  k_with "lt" => first | with_reducible assumption | exact And.left (by with_reducible assumption) | exact And.left (And.right (by with_reducible assumption)) | exact And.left (And.right (And.right (by with_reducible assumption))) | exact And.left (And.right (And.right (And.right (by with_reducible assumption)))) | exact And.left (And.right (And.right (And.right (And.right (by with_reducible assumption))))) | exact And.left (And.right (And.right (And.right (And.right (And.right (by with_reducible assumption)))))) | exact And.left (And.right (And.right (And.right (And.right (And.right (And.right (by with_reducible assumption)))))))
  k_with "exec For Name Call cons nil" => k_dflt (refine wpAny_For ?_ (by intro _; rfl))
  k_with "exec For Tuple Name cons nil" => k_dflt (refine wpAny_For ?_ (by intro _; rfl))
  k_with "pyIter ref" => refine Stop.go ?_
  k_with "FoPost" => (dsimp only [FoPost])
  k_with "exec For Name Call cons nil" => k_dflt (refine wpAny_For ?_ (by intro _; rfl))
  k_with "call ref" => (k_here; (with_reducible show wpAny _ _ (call (Value.ref 36) _ _) _ _ _); (refine' Does.use (wish_masks_does _ _ _ _ _ _ _ (by assumption) (by assumption) ?zuw9 ?zuc9) ?zuB9 ?zuF9 ?zuX9 ?zuN9 ?zuT9 ?zuK9 ?zuD9 ?zuU9 ?_); (case zuB9 => first | k_asm | ktn_no "use: the frames below"); (case zuF9 => first | k_asm | ktn_no "use: the frame"); (case zuX9 => first | k_asm | ktn_no "use: the written part"); (case zuN9 => first | k_asm | ktn_no "use: the ledger"); (case zuT9 => first | k_asm | ktn_no "use: the top"); (case zuK9 => first | exact rfl | assumption | ktn_no "use: the caller"); (case zuD9 => first | ktr_room | ktn_no "use: room"); (case zuU9 => first | ktr_units | ktn_no "use: units"); (case zuc9 => first | assumption | (refine' DatIn.mono ?zum9 ?zud9; (case zud9 => assumption); (case zum9 => (intro p9 h9; simp [h9])))); (case zuw9 => assumption); intro _ _ _ _ _ _ hp9; obtain ⟨_, e9, _, _⟩ := hp9; subst e9; obtain ⟨_, _, _, er9, _, _⟩ := list_inv (by assumption); subst er9; (try dsimp only))
  k_with "call ref" => (k_here; (with_reducible show wpAny _ _ (call (Value.ref 50) _ _) _ _ _); (refine' Does.use (do_masks_meet_does _ _ _ _ _ _ _ _ _ _ _ _ _ _ ?zua9 ?zub9) ?zuB9 ?zuF9 ?zuX9 ?zuN9 ?zuT9 ?zuK9 ?zuD9 ?zuU9 ?_); (case zuB9 => first | k_asm | ktn_no "use: the frames below"); (case zuF9 => first | k_asm | ktn_no "use: the frame"); (case zuX9 => first | k_asm | ktn_no "use: the written part"); (case zuN9 => first | k_asm | ktn_no "use: the ledger"); (case zuT9 => first | k_asm | ktn_no "use: the top"); (case zuK9 => first | exact rfl | assumption | ktn_no "use: the caller"); (case zuD9 => first | ktr_room | ktn_no "use: room"); (case zuU9 => first | ktr_units | ktn_no "use: units"); (case zua9 => k_mem); (case zub9 => k_mem); intro _ _ _ _ _ _ hp9; obtain ⟨e9, er9⟩ := hp9; subst e9; subst er9; (try dsimp only))
  obtain ⟨q1, n1, t1, t2, t3, rfl, hm1⟩ := wish_inv' hD1
  obtain ⟨q2, n2, t4, t5, t6, rfl, hm2⟩ := wish_inv' hD2
  unfold Does
  k_fill
  intro mean mg mb dp un gd cn cs fa ccd cl outer A₀ base h₀ L m s Q E B F X N T hk hd hu hret
  refine wpAny_call ?_
  k_dflt ktr_enter
  (rename Fr _ _ _ (fun _ => List.lookup _ _) => FE)
  replace FE := fr_entry (l' := [(Str.ofString "bits", .int bits tb), (Str.ofString "other", .ref q2), (Str.ofString "one", .ref q1)]) FE rfl
  k_steps
  · rename_i hk1 hk2 hle kF kN Tc kX
    have e1 := kind_range.mp (beq_iff_eq.mp hk1)
    have e2 := kind_range.mp (beq_iff_eq.mp hk2)
    exact hret _ news _ _ kF kN ⟨rfl, by simp [meetsS, e1, e2, hle]⟩
  · rename_i hk1 hk2 hle kF kN Tc kX
    have e1 := kind_range.mp (beq_iff_eq.mp hk1)
    have e2 := kind_range.mp (beq_iff_eq.mp hk2)
    exact hret _ news _ _ kF kN ⟨rfl, by simp [meetsS, e1, e2, hle]⟩
  · rename (kindS W2 == _) = false => hk2
    rename_i hA tA FA tlA ordA NA lA vsA nA hmA haA hdA
    have hnr : (isRange W1 && isRange W2) = false := by (cases hr : isRange W2; simp; rw [kind_range.mpr hr] at hk2; simp at hk2)
    have hml : ∀ b, ((rowsOf W1).any fun p => (rowsOf W2).any fun q => meetRows sz p q) = b → b = meetsS sz W1 W2 := fun b hb => by rw [meetsS, hnr]; exact hb.symm
    unfold Stop
    with_unfolding_all refine my_for_seq (σ := List (Str × Value)) (.inl rfl) rfl (fun _ => tlA ++ news) (fun c => (Str.ofString "bits", .int bits tb) :: (Str.ofString "other", .ref q2) :: (Str.ofString "one", .ref q1) :: c) (fun i _ => ((rowsOf W1).take i).any (fun p => (rowsOf W2).any fun q => meetRows sz p q) = false) [] (by rfl) FA NA rfl (fun _ h => h) (fun _ _ _ => List.mem_append.mpr (.inl hmA)) rfl ?_ ?_
    · intro i c v I oI h tk hv hP hoff F1 N1
      obtain ⟨p, hp, t', n', ta, tb', rfl, hm'⟩ := dat_at haA hv
      refine wpAny_assign_Name ?_
      clear FA NA
      dsimp only at F1 N1 ⊢
      k_steps
      rename_i hB FB0 NB0 hB tB FB tlB ordB NB lB vsB nB hmB haB hdB
      unfold Stop
      with_unfolding_all refine my_for_seq (σ := List (Str × Value)) (.inl rfl) rfl (fun _ => tlB ++ ((I, oI) :: (tlA ++ news))) (fun d => (Str.ofString "row", .ref t') :: (Str.ofString "bits", .int bits tb) :: (Str.ofString "other", .ref q2) :: (Str.ofString "one", .ref q1) :: d) (fun j _ => ((rowsOf W2).take j).any (fun q => meetRows sz p q) = false) c (by rfl) FB NB rfl (fun _ h => h) (fun _ _ _ => List.mem_append.mpr (.inl hmB)) rfl ?_ ?_
      · intro j d v2 J oJ h2 tk2 hv2 hP2 hoff2 F2 N2
        obtain ⟨q, hq, t2', n2', ta2, tb2, rfl, hm2'⟩ := dat_at haB hv2
        refine wpAny_assign_Name ?_
        clear FB NB
        dsimp only at F2 N2 ⊢
        k_steps
        · rename_i hyes kF kN Tc kX
          exact hret _ news _ _ kF (fun p hp => kN p (by simp [hp])) ⟨rfl, congrArg _ (hml true (any_true hp (any_true hq (by simpa [meetRows] using hyes))))⟩
        · rename_i h9 t9 F8 N8 hno
          exact FoEnd.intro ((Str.ofString "late", .ref t2') :: d) F8 N8 (by refine fr_ext [Str.ofString "late", Str.ofString "row", Str.ofString "bits", Str.ofString "other", Str.ofString "one"] (by repeat (first | exact trivial | refine ⟨rfl, ?_⟩)) ?_; intro y hy; simp only [noneOf, and_true] at hy; simp only [fr, hy, if_false]) (fun p hp => .tail _ hp) (.head _) (fun p hp => .inl ⟨p, hp, rfl⟩) (any_take hP2 hq (by simpa [meetRows] using hno))
      · intro d h2 tk2 hP2 F2 N2
        clear FB NB
        dsimp only at F2 N2 hP2 ⊢
        have hlen : vsB.length = (rowsOf W2).length := by rw [haB.length, List.length_map]
        rw [hlen, List.take_length] at hP2
        k_steps
        exact FoEnd.intro ((Str.ofString "row", .ref t') :: d) F2 N2 (by refine fr_ext [Str.ofString "row", Str.ofString "bits", Str.ofString "other", Str.ofString "one"] (by repeat (first | exact trivial | refine ⟨rfl, ?_⟩)) ?_; intro y hy; simp only [noneOf, and_true] at hy; simp only [fr, hy, if_false]) (fun p hp => List.mem_append.mpr (.inr (.tail _ hp))) (List.mem_append.mpr (.inr (.head _))) (fun p hp => .inl ⟨p, hp, rfl⟩) (any_take hP hp hP2)
    · intro c h tk hP F1 N1
      clear FA NA
      dsimp only at F1 N1 hP ⊢
      k_steps
      rename_i kF kN Tc kX
      have hlen : vsA.length = (rowsOf W1).length := by rw [haA.length, List.length_map]
      rw [hlen, List.take_length] at hP
      exact hret _ news _ _ kF (fun p hp => kN p (by simp [hp])) ⟨rfl, congrArg _ (hml false hP)⟩
  · rename (kindS W1 == _) = false => hk1
    rename_i hA tA FA tlA ordA NA lA vsA nA hmA haA hdA
    have hnr : (isRange W1 && isRange W2) = false := by (cases hr : isRange W1; simp; rw [kind_range.mpr hr] at hk1; simp at hk1)
    have hml : ∀ b, ((rowsOf W1).any fun p => (rowsOf W2).any fun q => meetRows sz p q) = b → b = meetsS sz W1 W2 := fun b hb => by rw [meetsS, hnr]; exact hb.symm
    unfold Stop
    with_unfolding_all refine my_for_seq (σ := List (Str × Value)) (.inl rfl) rfl (fun _ => tlA ++ news) (fun c => (Str.ofString "bits", .int bits tb) :: (Str.ofString "other", .ref q2) :: (Str.ofString "one", .ref q1) :: c) (fun i _ => ((rowsOf W1).take i).any (fun p => (rowsOf W2).any fun q => meetRows sz p q) = false) [] (by rfl) FA NA rfl (fun _ h => h) (fun _ _ _ => List.mem_append.mpr (.inl hmA)) rfl ?_ ?_
    · intro i c v I oI h tk hv hP hoff F1 N1
      obtain ⟨p, hp, t', n', ta, tb', rfl, hm'⟩ := dat_at haA hv
      refine wpAny_assign_Name ?_
      clear FA NA
      dsimp only at F1 N1 ⊢
      k_steps
      rename_i hB FB0 NB0 hB tB FB tlB ordB NB lB vsB nB hmB haB hdB
      unfold Stop
      with_unfolding_all refine my_for_seq (σ := List (Str × Value)) (.inl rfl) rfl (fun _ => tlB ++ ((I, oI) :: (tlA ++ news))) (fun d => (Str.ofString "row", .ref t') :: (Str.ofString "bits", .int bits tb) :: (Str.ofString "other", .ref q2) :: (Str.ofString "one", .ref q1) :: d) (fun j _ => ((rowsOf W2).take j).any (fun q => meetRows sz p q) = false) c (by rfl) FB NB rfl (fun _ h => h) (fun _ _ _ => List.mem_append.mpr (.inl hmB)) rfl ?_ ?_
      · intro j d v2 J oJ h2 tk2 hv2 hP2 hoff2 F2 N2
        obtain ⟨q, hq, t2', n2', ta2, tb2, rfl, hm2'⟩ := dat_at haB hv2
        refine wpAny_assign_Name ?_
        clear FB NB
        dsimp only at F2 N2 ⊢
        k_steps
        · rename_i hyes kF kN Tc kX
          exact hret _ news _ _ kF (fun p hp => kN p (by simp [hp])) ⟨rfl, congrArg _ (hml true (any_true hp (any_true hq (by simpa [meetRows] using hyes))))⟩
        · rename_i h9 t9 F8 N8 hno
          exact FoEnd.intro ((Str.ofString "late", .ref t2') :: d) F8 N8 (by refine fr_ext [Str.ofString "late", Str.ofString "row", Str.ofString "bits", Str.ofString "other", Str.ofString "one"] (by repeat (first | exact trivial | refine ⟨rfl, ?_⟩)) ?_; intro y hy; simp only [noneOf, and_true] at hy; simp only [fr, hy, if_false]) (fun p hp => .tail _ hp) (.head _) (fun p hp => .inl ⟨p, hp, rfl⟩) (any_take hP2 hq (by simpa [meetRows] using hno))
      · intro d h2 tk2 hP2 F2 N2
        clear FB NB
        dsimp only at F2 N2 hP2 ⊢
        have hlen : vsB.length = (rowsOf W2).length := by rw [haB.length, List.length_map]
        rw [hlen, List.take_length] at hP2
        k_steps
        exact FoEnd.intro ((Str.ofString "row", .ref t') :: d) F2 N2 (by refine fr_ext [Str.ofString "row", Str.ofString "bits", Str.ofString "other", Str.ofString "one"] (by repeat (first | exact trivial | refine ⟨rfl, ?_⟩)) ?_; intro y hy; simp only [noneOf, and_true] at hy; simp only [fr, hy, if_false]) (fun p hp => List.mem_append.mpr (.inr (.tail _ hp))) (List.mem_append.mpr (.inr (.head _))) (fun p hp => .inl ⟨p, hp, rfl⟩) (any_take hP hp hP2)
    · intro c h tk hP F1 N1
      clear FA NA
      dsimp only at F1 N1 hP ⊢
      k_steps
      rename_i kF kN Tc kX
      have hlen : vsA.length = (rowsOf W1).length := by rw [haA.length, List.length_map]
      rw [hlen, List.take_length] at hP
      exact hret _ news _ _ kF (fun p hp => kN p (by simp [hp])) ⟨rfl, congrArg _ (hml false hP)⟩
end
end
section
open PySem.Calls
def srcObj (a b : Int) (ta tb : Tok) (n : Nat) : Obj := W.listOf [Value.int a ta, Value.int b tb].toArray n
theorem UpdF_again {d : Addr} {o : Obj} : ∀ {l : Led} {g : Obj → Led}, UpdF d o l g → ∀ o', UpdF d o' (g o') g
  | _, _, .head h, _ => .head h
  | _, _, .tail h r, o' => .tail h (UpdF_again r o')
def srcOk (a b : Int) : Prop := 0 ≤ a ∧ 0 ≤ b ∧ b < 2147483647
section
set_option maxHeartbeats 0 in
theorem take_does (w : World) (news : Led) (g : Obj → Led) (l : Addr) (a b top : Int) (ta tb tt : Tok) (n : Nat) (U : UpdF l (srcObj a b ta tb n) news g) (hok : srcOk a b) (h1 : 1 ≤ top) (h8 : top ≤ 8) :
   Does w 1 8 196 news [.ref l, .int top tt] (fun r news' => ∃ x a' b' ta' tb' n' tx, r = .int x tx ∧ 0 ≤ x ∧ x < top ∧ srcOk a' b' ∧ news' = g (srcObj a' b' ta' tb' n')) := by
  k_with_none
  k_with "k_ne" => (refine neN ?_; (try dsimp only); first | with_reducible assumption | exact Ne.symm (by with_reducible assumption) | (refine Nat.ne_of_gt ?_; k_extra "lt") | (refine Nat.ne_of_lt ?_; k_extra "lt") | omega)
  k_with "lt" => first | with_reducible assumption | exact And.left (by with_reducible assumption) | exact And.left (And.right (by with_reducible assumption)) | exact And.left (And.right (And.right (by with_reducible assumption))) | exact And.left (And.right (And.right (And.right (by with_reducible assumption)))) | exact And.left (And.right (And.right (And.right (And.right (by with_reducible assumption))))) | exact And.left (And.right (And.right (And.right (And.right (And.right (by with_reducible assumption)))))) | exact And.left (And.right (And.right (And.right (And.right (And.right (And.right (by with_reducible assumption)))))))
  obtain ⟨pre, post, hnews, hg, hpre, hpost⟩ := U.split
  obtain ⟨ha0, hb0, hb1⟩ := hok
  subst hnews
  have hoff : OwnOff (pre ++ post) [l] := fun p hp b hb => by
    rw [List.mem_singleton.mp hb]
    exact (List.mem_append.mp hp).elim (hpre p) (hpost p)
  have back : ∀ (h₀ : Heap) (L : Addr) (h' : Heap) (o' : Obj), News h₀ L h' ((l, o') :: (pre ++ post)) → News h₀ L h' (g o') := fun h₀ L h' o' N p hp => N p (by
    rw [hg] at hp
    simp only [List.mem_cons, List.mem_append] at hp ⊢
    rcases hp with hp | hp | hp
    · exact .inr (.inl hp)
    · exact .inl hp
    · exact .inr (.inr hp))
  unfold Does
  k_fill
  intro mean mg mb dp un gd cn cs fa ccd cl outer A₀ base h₀ L m s Q E B F X N0 T hk hd hu hret
  have N : News h₀ L s.heap ((l, srcObj a b ta tb n) :: (pre ++ post)) := fun p hp => N0 p (by
    simp only [List.mem_cons, List.mem_append] at hp ⊢
    rcases hp with hp | hp | hp
    · exact .inr (.inl hp)
    · exact .inl hp
    · exact .inr (.inr hp))
  clear N0
  unfold srcObj at N
  refine wpAny_call ?_
  k_dflt ktr_enter
  k_steps
  · rename_i kF kN Tc kX
    obtain ⟨tq, kN⟩ : ∃ tq, News h₀ L _ ((l, srcObj (a.fdiv top) b tq tb n) :: (pre ++ post)) := ⟨_, kN⟩
    refine hret _ _ _ _ kF (back _ _ _ _ kN) ⟨a.fmod top, a.fdiv top, b, tq, tb, n, _, rfl, ?_, ?_, ⟨?_, hb0, hb1⟩, rfl⟩
    · exact Int.fmod_nonneg ha0 (by omega)
    · exact Int.fmod_lt_of_pos _ (by omega)
    · exact Int.fdiv_nonneg ha0 (by omega)
  · have hz0 : 0 ≤ (b * 39373 + 7).fmod 2147483647 := Int.fmod_nonneg (by omega) (by decide)
    have hz1 : (b * 39373 + 7).fmod 2147483647 < 2147483647 := Int.fmod_lt_of_pos _ (by decide)
    rename News _ _ _ _ => N9
    revert N9
    show News _ _ _ ((l, W.listOf #[Value.int a ta, Value.int ((b * 39373 + 7).fmod 2147483647) _] n) :: (pre ++ post)) → wpAny _ _ (binaryOp Operator.Mult (Value.int ((b * 39373 + 7).fmod 2147483647) _) (Value.int ((b * 39373 + 7).fmod 2147483647) _)) _ _ _
    generalize (b * 39373 + 7).fmod 2147483647 = z at hz0 hz1 ⊢
    intro N9
    k_steps
    rename_i hna kF kN Tc kX
    refine hret _ _ _ _ kF (back _ _ _ _ kN) ⟨((z * z).fmod 2147483629 |>.fdiv 32).fmod top, a, z, _, _, n, _, rfl, ?_, ?_, ⟨ha0, hz0, hz1⟩, rfl⟩
    · exact Int.fmod_nonneg (Int.fdiv_nonneg (Int.fmod_nonneg (Int.mul_nonneg hz0 hz0) (by decide)) (by decide)) (by omega)
    · exact Int.fmod_lt_of_pos _ (by omega)
end
end
section
open PySem.Calls
section
variable {prog : Program} {w : World} {A : Around} {E : Value → Shared → Prop} {s : Shared} {h₀ : Heap} {L : Addr} {m : Str → Option Value} {news : Led}
theorem my_item {value slice : Expr} {q : Addr} {vs : List Value} {k : Int} {u : Tok} {n : Nat} {Q : Value → Shared → Prop} (N : News h₀ L s.heap news) (hm : (q, W.listOf vs.toArray n) ∈ news) (h0 : 0 ≤ k) (h1 : k < (vs.length : Int)) (h2 : vs.length < 1000)
    (h : ∀ v, vs[k.toNat]? = some v → Q v s)
    (hs : subscripted slice false (.ref q) (.int k u) = operate [.ref q, .int k u] (getItem (.ref q) (.int k u)) := by with_unfolding_all rfl) :
    wpAny (model prog w) A (subscriptTail value slice (.ref q) (.int k u)) Q E s := by
  have hk : k.toNat < vs.length := by omega
  have hl : s.heap.IsList q vs.toArray := ⟨_, (N _ hm).1, rfl, n, rfl⟩
  exact tail_any hl.typeIs slot_list_getitem.lookup (wpAny_getItem_list hl h0 (by omega) (x := vs[k.toNat]) (by simp [hk]) (h _ (by simp))) hs
theorem my_len {q : Addr} {vs : List Value} {n : Nat} {Q : Value → Shared → Prop} (N : News h₀ L s.heap news) (hm : (q, W.listOf vs.toArray n) ∈ news) (h2 : vs.length < 1000)
    (h : Q (.int (vs.length : Int) (s.toks + 1)) { s with toks := s.toks + 1 + 1 }) : wpAny (model prog w) A (call (.builtin "len") [.ref q]) Q E s := by
  have hl : s.heap.IsList q vs.toArray := ⟨_, (N _ hm).1, rfl, n, rfl⟩
  exact len_list hl (by rw [List.size_toArray]; omega) (by rw [List.size_toArray]; exact h)
end
section
set_option maxHeartbeats 0 in
theorem one_does (w : World) (news : Led) (g : Obj → Led) (l q : Addr) (a b : Int) (ta tb : Tok) (n k : Nat) (vs : List Value) (U : UpdF l (srcObj a b ta tb n) news g) (hok : srcOk a b) (hq : ∀ o, (q, W.listOf vs.toArray k) ∈ g o) (hql : (q, W.listOf vs.toArray k) ∈ news) (h1 : 1 ≤ vs.length) (h8 : vs.length ≤ 8) :
   Does w 2 16 203 news [.ref l, .ref q] (fun r news' => ∃ (i : Nat) (a' b' : Int) (ta' tb' : Tok) (n' : Nat), vs[i]? = some r ∧ srcOk a' b' ∧ news' = g (srcObj a' b' ta' tb' n')) := by
  k_with_none
  k_with "k_ne" => (refine neN ?_; (try dsimp only); first | with_reducible assumption | exact Ne.symm (by with_reducible assumption) | (refine Nat.ne_of_gt ?_; k_extra "lt") | (refine Nat.ne_of_lt ?_; k_extra "lt") | omega)
  k_with "lt" => first | with_reducible assumption | exact And.left (by with_reducible assumption) | exact And.left (And.right (by with_reducible assumption)) | exact And.left (And.right (And.right (by with_reducible assumption))) | exact And.left (And.right (And.right (And.right (by with_reducible assumption)))) | exact And.left (And.right (And.right (And.right (And.right (by with_reducible assumption))))) | exact And.left (And.right (And.right (And.right (And.right (And.right (by with_reducible assumption)))))) | exact And.left (And.right (And.right (And.right (And.right (And.right (And.right (by with_reducible assumption)))))))
  k_with "call builtin:len" => (k_here; (with_reducible show wpAny _ _ (call (Value.builtin "len") [Value.ref _]) _ _ _); k_dflt (refine' my_len ?zk19 ?zk29 ?zk39 ?_; (case zk19 => k_asm); (case zk29 => k_mem); (case zk39 => first | assumption | (simp; done) | omega)))
  k_with "subscriptTail" => (k_here; (with_reducible show wpAny _ _ (subscriptTail _ _ (Value.ref _) (Value.int _ _)) _ _ _); k_dflt (refine' my_item ?zk19 ?zk29 ?zk39 ?zk49 ?zk59 ?_ ?zk69; (case zk19 => k_asm); (case zk29 => k_mem); (case zk39 => first | assumption | omega); (case zk49 => first | assumption | omega); (case zk59 => first | assumption | omega); (case zk69 => with_unfolding_all rfl)); intro _ _)
  k_with "call ref" => (k_here; (with_reducible show wpAny _ _ (call (Value.ref 196) _ _) _ _ _); (refine' Does.use (take_does _ _ _ _ _ _ _ _ _ _ _ ?zua9 (by assumption) ?zub9 ?zuc9) ?zuB9 ?zuF9 ?zuX9 ?zuN9 ?zuT9 ?zuK9 ?zuD9 ?zuU9 ?_); (case zuB9 => first | k_asm | ktn_no "use: the frames below"); (case zuF9 => first | k_asm | ktn_no "use: the frame"); (case zuX9 => first | k_asm | ktn_no "use: the written part"); (case zuN9 => first | k_asm | ktn_no "use: the ledger"); (case zuT9 => first | k_asm | ktn_no "use: the top"); (case zuK9 => first | exact rfl | assumption | ktn_no "use: the caller"); (case zuD9 => first | ktr_room | ktn_no "use: room"); (case zuU9 => first | ktr_units | ktn_no "use: units"); (case zua9 => first | assumption | exact UpdF_again (by assumption) _ | k_updF); (case zub9 => first | decide | assumption | omega); (case zuc9 => first | decide | assumption | omega); intro _ _ _ _ _ N9 hp9; obtain ⟨_, _, _, _, _, _, _, er9, _, _, _, e9⟩ := hp9; subst e9; subst er9; (try dsimp only at N9); (try dsimp only); revert N9; intro _)
  k_with "k_mem" => apply_assumption
  have hv : vs.length < 1000 := by omega
  have g1 : 1 ≤ (vs.length : Int) := by omega
  have g8 : (vs.length : Int) ≤ 8 := by omega
  have hq' := hq
  unfold Does
  k_fill
  intro mean mg mb dp un gd cn cs fa ccd cl outer A₀ base h₀ L m s Q E B F X N T hk hd hu hret
  refine wpAny_call ?_
  k_dflt ktr_enter
  k_steps
  rename_i hv9 kF kN Tc kX
  exact hret _ _ _ _ kF kN ⟨_, _, _, _, _, _, hv9, by assumption, rfl⟩
end
section
theorem and_ok {x m : Int} (h1 : 0 ≤ x) (h2 : x < 8) (h3 : 0 ≤ m) (h4 : m < 8) : (Wish.mask (Builtin.bitAnd x m) m).ok := by
  have hx : x = 0 ∨ x = 1 ∨ x = 2 ∨ x = 3 ∨ x = 4 ∨ x = 5 ∨ x = 6 ∨ x = 7 := by omega
  have hm : m = 0 ∨ m = 1 ∨ m = 2 ∨ m = 3 ∨ m = 4 ∨ m = 5 ∨ m = 6 ∨ m = 7 := by omega
  unfold Wish.ok
  rcases hx with h | h | h | h | h | h | h | h <;> rcases hm with h' | h' | h' | h' | h' | h' | h' | h' <;> subst h <;> subst h' <;> decide +kernel
set_option maxHeartbeats 0 in
theorem law_wish_does (w : World) (news : Led) (g : Obj → Led) (l : Addr) (a b sz : Int) (ta tb ts : Tok) (n : Nat) (U : UpdF l (srcObj a b ta tb n) news g) (hok : srcOk a b) (hs : okSize sz) :
   Does w 2 16 210 news [.ref l, .int sz ts] (fun r news' => ∃ (W : Wish) (t : Addr) (ot : Obj) (a' b' : Int) (ta' tb' : Tok) (n' : Nat), W.ok ∧ r = .ref t ∧ srcOk a' b' ∧ news' = (t, ot) :: g (srcObj a' b' ta' tb' n') ∧ (∀ q ∈ g (srcObj a' b' ta' tb' n'), q.1 < t) ∧ DatIn [(t, ot)] r (wishD sz W)) := by
  k_with_none
  k_with "k_ne" => (refine neN ?_; (try dsimp only); first | with_reducible assumption | exact Ne.symm (by with_reducible assumption) | (refine Nat.ne_of_gt ?_; k_extra "lt") | (refine Nat.ne_of_lt ?_; k_extra "lt") | omega)
  k_with "lt" => first | with_reducible assumption | exact And.left (by with_reducible assumption) | exact And.left (And.right (by with_reducible assumption)) | exact And.left (And.right (And.right (by with_reducible assumption))) | exact And.left (And.right (And.right (And.right (by with_reducible assumption)))) | exact And.left (And.right (And.right (And.right (And.right (by with_reducible assumption))))) | exact And.left (And.right (And.right (And.right (And.right (And.right (by with_reducible assumption)))))) | exact And.left (And.right (And.right (And.right (And.right (And.right (And.right (by with_reducible assumption)))))))
  k_with "call ref" => (k_here; (with_reducible show wpAny _ _ (call (Value.ref 196) _ _) _ _ _); (refine' Does.use (take_does _ _ _ _ _ _ _ _ _ _ _ ?zua9 (by assumption) ?zub9 ?zuc9) ?zuB9 ?zuF9 ?zuX9 ?zuN9 ?zuT9 ?zuK9 ?zuD9 ?zuU9 ?_); (case zuB9 => first | k_asm | ktn_no "use: the frames below"); (case zuF9 => first | k_asm | ktn_no "use: the frame"); (case zuX9 => first | k_asm | ktn_no "use: the written part"); (case zuN9 => first | k_asm | ktn_no "use: the ledger"); (case zuT9 => first | k_asm | ktn_no "use: the top"); (case zuK9 => first | exact rfl | assumption | ktn_no "use: the caller"); (case zuD9 => first | ktr_room | ktn_no "use: room"); (case zuU9 => first | ktr_units | ktn_no "use: units"); (case zua9 => first | assumption | exact UpdF_again (by assumption) _ | k_updF); (case zub9 => first | decide | assumption | omega); (case zuc9 => first | decide | assumption | omega); intro _ _ _ _ _ N9 hp9; obtain ⟨_, _, _, _, _, _, _, er9, _, _, _, e9⟩ := hp9; subst e9; subst er9; (try dsimp only at N9); (try dsimp only); revert N9; intro _)
  have hsz : 1 ≤ sz ∧ sz ≤ 8192 := by rcases hs with h | h | h | h <;> omega
  obtain ⟨hsz1, hsz2⟩ := hsz
  unfold Does
  k_fill
  intro mean mg mb dp un gd cn cs fa ccd cl outer A₀ base h₀ L m s Q E B F X N T hk hd hu hret
  refine wpAny_call ?_
  k_dflt ktr_enter
  k_steps
  · rename_i l1 kF kN Tc kX
    refine hret _ _ _ _ kF kN ⟨.mask _ _, _, _, _, _, _, _, _, ?_, rfl, by assumption, rfl, l1, DatIn.tuple (vs := [_, _, _]) (.head _) (.cons (.str _ _) (.cons (.int _ _) (.cons (.int _ _) .nil)))⟩
    apply and_ok <;> assumption
  · rename_i l1 kF kN Tc kX
    refine hret _ _ _ _ kF kN ⟨.range _ _, _, _, _, _, _, _, _, ?_, rfl, by assumption, rfl, l1, DatIn.tuple (vs := [_, _, _]) (.head _) (.cons (.str _ _) (.cons (.int _ _) (.cons (.int _ _) .nil)))⟩
    unfold Wish.ok
    omega
end
end
section
open PySem.Calls
def DoesL (w : World) (D U : Nat) (f : Addr) (news : Led) (l : Addr) (vs : List Value) (Post : Value → Led → Prop) : Prop :=
  ∀ (mean : ExcName → Option Value) (mg mb : Str → Option Value) (dp un : Nat) (gd : Option (List Code)) (cn : Str) (cs : Scope) (a : Addr) (ccd : Value) (cl : List (Str × Addr)) (outer : List Env) (A₀ : Around) (base h₀ : Heap) (L : Addr) (m : Str → Option Value) (s : Shared) (Q E : Value → Shared → Prop),
    base.IsList l vs.toArray →
    Below A₀ base outer h₀ → Fr h₀ L s.heap m → (hd.heap_1 w.params).In h₀ → News h₀ L s.heap news → Top hd.view_1 (looseW hd.view_1 [Str.ofString "SettingError"]) mean mg mb h₀ → cs.kind = .function →
    dp + D < recursionLimit → un + U < cLine →
    (∀ r news' h' tk', Fr h₀ L h' m → News h₀ L h' news' → Post r news' → Q r { s with heap := h', toks := tk' }) →
    wpAny (model PySem.Challenge.rw_xm0981_01.row.prog w) (ktrTop dp un gd cn cs L a ccd cl outer) (call (.ref f) [.ref l]) Q E s
set_option maxHeartbeats 0 in
theorem pool_does (w : World) (news : Led) (l : Addr) (vs : List Value) (ns : List Int) (hi : IntsAre vs ns) (hn : ns.length < 64) :
    DoesL w 1 8 189 news l vs (fun r news' => ∃ t a b ta tb n, r = .ref t ∧ srcOk a b ∧ news' = (t, srcObj a b ta tb n) :: news ∧ ∀ q ∈ news, q.1 < t) := by
  k_with_none
  k_with "k_ne" => (refine neN ?_; (try dsimp only); first | with_reducible assumption | exact Ne.symm (by with_reducible assumption) | (refine Nat.ne_of_gt ?_; k_extra "lt") | (refine Nat.ne_of_lt ?_; k_extra "lt") | omega)
  k_with "lt" => first | with_reducible assumption | exact And.left (by with_reducible assumption) | exact And.left (And.right (by with_reducible assumption)) | exact And.left (And.right (And.right (by with_reducible assumption))) | exact And.left (And.right (And.right (And.right (by with_reducible assumption)))) | exact And.left (And.right (And.right (And.right (And.right (by with_reducible assumption))))) | exact And.left (And.right (And.right (And.right (And.right (And.right (by with_reducible assumption)))))) | exact And.left (And.right (And.right (And.right (And.right (And.right (And.right (by with_reducible assumption)))))))
  unfold DoesL
  k_fill
  intro mean mg mb dp un gd cn cs fa ccd cl outer A₀ base h₀ L m s Q E hl B F X N T hk hd hu hret
  refine wpAny_call ?_
  k_dflt ktr_enter

  rename_i g' L' h' FG' F' N' B' X' T'
  (try k_lift B')

  k_steps
  all_goals
    rename_i l1 kF kN Tc kX
    refine hret _ _ _ _ kF kN ⟨_, _, _, _, _, _, rfl, ⟨?_, ?_, ?_⟩, rfl, l1⟩
    · exact Int.mul_nonneg (by split <;> omega) (by split <;> omega)
    · exact Int.fmod_nonneg_of_pos _ (by decide)
    · exact Int.fmod_lt_of_pos _ (by decide)
end
section
open PySem.Calls
def eD (l : List Int) : Dat := .list (l.map Dat.int)
theorem all_at {news : Led} : ∀ {vs : List Value} {ds : List Dat} {i : Nat} {v : Value}, DatAll news vs ds → vs[i]? = some v → ∃ d, ds[i]? = some d ∧ DatIn news v d
  | _, _, i, v, .nil, h => by simp at h
  | _, _, 0, v, .cons hd _, h => by simp at h; subst h; exact ⟨_, rfl, hd⟩
  | _, _, i + 1, v, .cons _ hr, h => by simpa using all_at hr (by simpa using h)
theorem all_snoc {news : Led} : ∀ {vs : List Value} {ds : List Dat} {v : Value} {d : Dat}, DatAll news vs ds → DatIn news v d → DatAll news (vs ++ [v]) (ds ++ [d])
  | _, _, _, _, .nil, h => .cons h .nil
  | _, _, _, _, .cons hd hr, h => .cons hd (all_snoc hr h)
theorem map_at {α β : Type} {f : α → β} {l : List α} {i : Nat} {d : β} (h : (l.map f)[i]? = some d) : ∃ a, l[i]? = some a ∧ d = f a := by
  rw [List.getElem?_map] at h
  cases e : l[i]? with
  | none => rw [e] at h; simp at h
  | some a => rw [e] at h; simp at h; exact ⟨a, rfl, h.symm⟩
theorem int_inv {news : Led} {v : Value} {a : Int} (h : DatIn news v (.int a)) : ∃ t, v = .int a t := by
  cases h with
  | int _ t => exact ⟨t, rfl⟩
theorem okE (l : List Int) : ∀ d ∈ l.map Dat.int, kqdOk 8 d = true := by
  intro d hd
  obtain ⟨a, _, rfl⟩ := List.mem_map.mp hd
  rfl
theorem mem_int {a : Int} {l : List Int} : Dat.int a ∈ l.map Dat.int ↔ a ∈ l := by
  constructor
  · intro h
    obtain ⟨b, hb, e⟩ := List.mem_map.mp h
    cases e
    exact hb
  · exact fun h => List.mem_map_of_mem h
theorem datAll_len {news : Led} : ∀ {vs : List Value} {ds : List Dat}, DatAll news vs ds → vs.length = ds.length
  | _, _, .nil => rfl
  | _, _, .cons _ h => by simp [datAll_len h]
theorem forall_take_succ {α : Type} {p : α → Prop} {l : List α} {i : Nat} {x : α} (hx : l[i]? = some x) : (∀ a ∈ l.take (i + 1), p a) ↔ (∀ a ∈ l.take i, p a) ∧ p x := by
  rw [List.take_add_one, hx]
  simp [or_imp, forall_and]
section
set_option maxHeartbeats 0 in
theorem law_within_does (w : World) (news : Led) (v1 v2 : Value) (as bs : List Int) (h8 : as.length ≤ 8) (D1 : DatIn news v1 (eD as)) (D2 : DatIn news v2 (eD bs)) :
   Does w 1 100 220 news [v1, v2] (fun r news' => news' = news ∧ r = .bool (as.all (fun a => decide (a ∈ bs)))) := by
  k_with_none
  k_with "k_ne" => (refine neN ?_; (try dsimp only); first | with_reducible assumption | exact Ne.symm (by with_reducible assumption) | (refine Nat.ne_of_gt ?_; k_extra "lt") | (refine Nat.ne_of_lt ?_; k_extra "lt") | omega)
  k_with "lt" => first | with_reducible assumption | exact And.left (by with_reducible assumption) | exact And.left (And.right (by with_reducible assumption)) | exact And.left (And.right (And.right (by with_reducible assumption))) | exact And.left (And.right (And.right (And.right (by with_reducible assumption)))) | exact And.left (And.right (And.right (And.right (And.right (by with_reducible assumption))))) | exact And.left (And.right (And.right (And.right (And.right (And.right (by with_reducible assumption)))))) | exact And.left (And.right (And.right (And.right (And.right (And.right (And.right (by with_reducible assumption)))))))
  k_with "eval ListComp" => k_dflt (refine co_eval (by with_unfolding_all rfl) (by rfl) (by decide) ?_)
  k_with "exec Assign cons ListComp" => k_dflt (refine co_assign (by with_unfolding_all rfl) (by with_unfolding_all rfl) (by rfl) (by decide) ?_)
  k_with "compareOp NotIn" => (k_here; (with_reducible show wpAny _ _ (compareOp CmpOp.NotIn _ (Value.ref _)) _ _ _); k_dflt (refine' kqd_notIn ?zN9 ?za9 ?zb9 ?zc9 ?zd9 ?ze9 ?zx9 (fun _ h => h) ?zl9 ?zm9 ?zn9 ?_; (case zN9 => k_asm); (case za9 => k_mem); (case zb9 => rfl); (case zc9 => rfl); (case zd9 => with_reducible assumption); (case ze9 => (intro p9 h9; simp [h9])); (case zx9 => exact DatIn.int _ _); (case zl9 => exact okE _); (case zm9 => rfl); (case zn9 => ktr_units); k_whole))
  k_with "compareOp Eq" => (k_here; (with_reducible show wpAny _ _ (compareOp CmpOp.Eq (Value.ref _) (Value.ref _)) _ _ _); k_dflt (refine' kqd_eq ?zN9 ?za9 ?zb9 ?zc9 ?zd9 ?ze9 ?zap9 ?zbp9 ?zcp9 (n₂ := []) (es := []) ?zdp9 (fun _ h => nomatch h) ?zl9 ?zlp9 ?zn9 ?_; (case zN9 => k_asm); (case za9 => k_mem); (case zb9 => rfl); (case zc9 => rfl); (case zd9 => with_reducible assumption); (case ze9 => (intro p9 h9; (first | (exact absurd h9 List.not_mem_nil) | simp [h9]))); (case zap9 => k_mem); (case zbp9 => rfl); (case zcp9 => rfl); (case zdp9 => exact DatAll.nil); (case zl9 => exact okE _); (case zlp9 => exact fun _ h => nomatch h); (case zn9 => ktr_units); k_whole))
  obtain ⟨l1, va, na, rfl, hm1, ha1⟩ := list_inv D1
  obtain ⟨l2, vb, nb, rfl, hm2, ha2⟩ := list_inv D2
  have hva : va.length = as.length := by rw [datAll_len ha1, List.length_map]
  unfold Does
  k_fill
  intro mean mg mb dp un gd cn cs fa ccd cl outer A₀ base h₀ L m s Q E B F X N T hk hd hu hret
  refine wpAny_call ?_
  k_dflt (refine' code_defC ?k1 ?k2 ?k3 ?k4 ?k5 ?kA ?kF ?kK ?k6 ?k7 ?k8 ?k9 ?kB ?kD ?_ ?c2 ?c3 ?c4; (case kA => exact rfl); (case kF => exact rfl); (case kK => assumption); (case k1 => k_asm); (case k2 => k_asm); (case k3 => k_asm); (case k4 => k_asm); (case k5 => k_asm); (case k6 => k_is); (case k7 => k_is); (case k8 => ktr_room); (case k9 => exact BindsTo.of_eq rfl); (case kB => exact rfl); (case kD => decide +kernel); (case c2 => exact rfl); (case c3 => exact rfl); (case c4 => exact rfl); k_whole; intro g' L' h' tk' cells' FG' F' N' Y' B' X' T' l1; (try k_lt l1); k_cells Y'; (try simp only [List.cons_append, List.nil_append] at N'); (try dsimp only); (try k_fold))
  k_steps
  rename_i oc hoc
  unfold Stop CoGo
  refine co_seq (.inl rfl) rfl (by show va.length ≤ _; rw [hva]; exact Nat.le_trans h8 (by decide)) (by decide) (by rfl) (by rfl) (BName (Str.ofString "one")) (fun i ys pool => pool = [] ∧ ∃ zs : List Int, DatAll [] ys (zs.map Dat.int) ∧ (zs = [] ↔ ∀ a ∈ as.take i, a ∈ bs)) ((L' + 1, oc) :: news) (.tail _ hm1) F' N' ⟨rfl, [], .nil, by simp⟩ (co_name (by rfl) (by rfl)) ?_ ?_
  · intro i v ys pool I oI D C oC mC h tk E' hv hP hn hB lID lDC hI hp F1 N1
    obtain ⟨rfl, zs, hz, hzi⟩ := hP
    obtain ⟨d, hd, hdi⟩ := all_at ha1 hv
    obtain ⟨a, ha, rfl⟩ := map_at hd
    obtain ⟨ta, rfl⟩ := int_inv hdi
    unfold BName at hB
    clear F' N'
    simp only [List.nil_append] at N1
    k_steps
    · rename_i ht
      exact CoEnd.same F1 N1 (fun _ h => h) ⟨rfl, zs, hz, by rw [forall_take_succ ha, hzi]; exact ⟨fun h => ⟨h, mem_int.mp (by simpa only [decide_eq_true_eq] using ht)⟩, fun h => h.1⟩⟩
    · rename_i ht
      have hn0 : ¬ (Dat.int a ∈ bs.map Dat.int) := by simpa only [decide_eq_false_iff_not] using ht
      have hna : a ∉ bs := fun h => hn0 (mem_int.mpr h)
      exact CoEnd.same F1 N1 (fun _ h => h) ⟨rfl, zs ++ [a], by rw [List.map_append]; exact all_snoc hz (.int _ _), by rw [forall_take_succ ha]; simp [hna]⟩
  · refine co_fin_eval (P := fun ys pool => pool = [] ∧ ∃ zs : List Int, DatAll [] ys (zs.map Dat.int) ∧ (zs = [] ↔ ∀ a ∈ as.take va.length, a ∈ bs)) ?_
    intro D ys pool h tk hP hcD hpl F1 N1
    obtain ⟨rfl, zs, hz, hzi⟩ := hP
    simp only [List.nil_append] at N1
    clear F' N'
    k_steps
    rename_i kF kN Tc kX
    rw [hva, List.take_length] at hzi
    exact hret _ news _ _ kF (fun p hp => kN p (by simp [hp])) ⟨rfl, congrArg _ (by rw [Bool.eq_iff_iff]; simp [hzi])⟩
end
end
section
open PySem.Calls
structure LlSt where
  oE : Obj
  vs : List Value
  n : Nat
  ex : List (Str × Value)
theorem allLt_mem {d : Addr} : ∀ {l : Led}, AllLt d l → ∀ p ∈ l, p.1 < d
  | [], _, p, h => absurd h List.not_mem_nil
  | q :: r, h, p, hp => by
    rcases List.mem_cons.mp hp with rfl | hp
    · exact h.1
    · exact allLt_mem h.2 p hp
def bitAt (x b : Int) : Int := (x.fdiv b).fmod 2
def bitOk (s v m e b : Int) : Bool := !(bitAt (m * s) b == 1 && !(bitAt (v * s) b == bitAt (e * s) b))
def letP (s : Int) : Wish → Int → Bool
  | .range l h, e => decide (l * s ≤ e * s) && decide (e * s ≤ h * s + s - 1)
  | .mask v m, e => [s, 2 * s, 4 * s].all (bitOk s v m e)
def eighths (n : Nat) : List Int := (List.range n).map Int.ofNat
def letsS (s : Int) (W : Wish) : List Int := (eighths 8).filter (letP s W)
theorem eighths_succ (n : Nat) : eighths (n + 1) = eighths n ++ [(n : Int)] := by
  simp [eighths, List.range_succ]
section
set_option maxHeartbeats 0 in
theorem law_lets_does (w : World) (news : Led) (v : Value) (W : Wish) (sz : Int) (ts : Tok) (hs : okSize sz) (hW : W.ok) (hD : DatIn news v (wishD sz W)) :
   Does w 1 100 215 news [v, .int sz ts] (fun r news' => ∃ tl, news' = tl ++ news ∧ (∀ q ∈ news, ∀ p ∈ tl, q.1 < p.1) ∧ DatIn tl r (eD (letsS sz W))) := by
  k_with_none
  k_with "k_ne" => (refine neN ?_; (try dsimp only); first | with_reducible assumption | exact Ne.symm (by with_reducible assumption) | (refine Nat.ne_of_gt ?_; k_extra "lt") | (refine Nat.ne_of_lt ?_; k_extra "lt") | omega)
  k_with "lt" => first | with_reducible assumption | exact And.left (by with_reducible assumption) | exact And.left (And.right (by with_reducible assumption)) | exact And.left (And.right (And.right (by with_reducible assumption))) | exact And.left (And.right (And.right (And.right (by with_reducible assumption)))) | exact And.left (And.right (And.right (And.right (And.right (by with_reducible assumption))))) | exact And.left (And.right (And.right (And.right (And.right (And.right (by with_reducible assumption)))))) | exact And.left (And.right (And.right (And.right (And.right (And.right (And.right (by with_reducible assumption)))))))
  k_with "eval ListComp" => k_dflt (refine co_eval (by with_unfolding_all rfl) (by rfl) (by decide) ?_)
  k_with "exec Assign cons ListComp" => k_dflt (refine co_assign (by with_unfolding_all rfl) (by with_unfolding_all rfl) (by rfl) (by decide) ?_)
  k_with "exec For Name Call cons nil" => k_dflt (refine wpAny_For ?_ (by intro _; rfl))
  k_with "exec For Tuple Name cons nil" => k_dflt (refine wpAny_For ?_ (by intro _; rfl))
  k_with "pyIter ref" => refine Stop.go ?_
  k_with "FoPost" => (dsimp only [FoPost])
  k_with "compareOp Eq" => (k_here; (with_reducible show wpAny _ _ (compareOp CmpOp.Eq (Value.ref _) (Value.ref _)) _ _ _); k_dflt (refine' kqd_eq ?zN9 ?za9 ?zb9 ?zc9 ?zd9 ?ze9 ?zap9 ?zbp9 ?zcp9 (n₂ := []) (es := []) ?zdp9 (fun _ h => nomatch h) ?zl9 ?zlp9 ?zn9 ?_; (case zN9 => k_asm); (case za9 => k_mem); (case zb9 => rfl); (case zc9 => rfl); (case zd9 => with_reducible assumption); (case ze9 => (intro p9 h9; (first | (exact absurd h9 List.not_mem_nil) | simp [h9]))); (case zap9 => k_mem); (case zbp9 => rfl); (case zcp9 => rfl); (case zdp9 => exact DatAll.nil); (case zl9 => exact okE _); (case zlp9 => exact fun _ h => nomatch h); (case zn9 => ktr_units); k_whole))
  have hsz : 1 ≤ sz ∧ sz ≤ 8192 := by rcases hs with h | h | h | h <;> omega
  cases W with
  | range l h =>
    obtain ⟨q1, n1, t1, t2, t3, rfl, hm1⟩ := wish_inv hD
    unfold Does
    k_fill
    intro mean mg mb dp un gd cn cs fa ccd cl outer A₀ base h₀ L m s Q E B F X N T hk hd hu hret
    refine wpAny_call ?_
    k_dflt (refine' code_defC ?k1 ?k2 ?k3 ?k4 ?k5 ?kA ?kF ?kK ?k6 ?k7 ?k8 ?k9 ?kB ?kD ?_ ?c2 ?c3 ?c4; (case kA => exact rfl); (case kF => exact rfl); (case kK => assumption); (case k1 => k_asm); (case k2 => k_asm); (case k3 => k_asm); (case k4 => k_asm); (case k5 => k_asm); (case k6 => k_is); (case k7 => k_is); (case k8 => ktr_room); (case k9 => exact BindsTo.of_eq rfl); (case kB => exact rfl); (case kD => decide +kernel); (case c2 => exact rfl); (case c3 => exact rfl); (case c4 => exact rfl); k_whole; intro g' L' h' tk' cells' FG' F' N' Y' B' X' T' l1; (try k_lt l1); k_cells Y'; (try simp only [List.cons_append, List.nil_append] at N'); (try dsimp only); (try k_fold))
    rename_i o1 o2 o3 d1 d2 d3
    replace F' : Fr g' L' h' (fr []) := by with_unfolding_all exact F'
    replace d3 : o3.data = .cell (some (.ref q1)) := by with_unfolding_all exact d3
    replace d2 : o2.data = .cell (some (.int sz ts)) := by with_unfolding_all exact d2
    replace d1 : o1.data = .cell none := by with_unfolding_all exact d1
    k_steps
    rename_i hA tkA tA uA vA hR FA NA keepA
    unfold Stop CoGo
    refine co_range (n := 8) hR (by rfl) (by rfl) (by decide) (by decide) (by rfl) (by rfl) (by rfl) (fun i ys pool => pool = [] ∧ DatAll [] ys (((eighths i).filter (letP sz (.range l h))).map Dat.int)) _ FA NA ⟨rfl, .nil⟩ ?_ ?_
    · intro i tv ys pool I oI D C oC mC h2 tk E' hi hP hn hB lID lDC hI hp F1 N1
      obtain ⟨rfl, hz⟩ := hP
      clear FA NA
      simp only [List.nil_append, Int.zero_add] at N1 hB
      dsimp only at F1 N1 ⊢
      k_steps
      · rename_i c1 c2
        exact CoEnd.same F1 N1 (fun _ h => h) ⟨rfl, by rw [eighths_succ, List.filter_append, List.map_append, List.filter_cons_of_pos (by simp [letP, c1, c2])]; exact all_snoc hz (.int _ _)⟩
      all_goals exact CoEnd.same F1 N1 (fun _ h => h) ⟨rfl, by rw [eighths_succ, List.filter_append, List.filter_cons_of_neg (by simp [letP, *])]; simpa using hz⟩
    · refine co_fin_eval (P := fun ys pool => pool = [] ∧ DatAll [] ys (((eighths 8).filter (letP sz (.range l h))).map Dat.int)) ?_
      intro D ys pool h2 tk hP hcD hpl F1 N1
      obtain ⟨rfl, hz⟩ := hP
      simp only [List.nil_append] at N1
      clear FA NA
      dsimp only at F1 N1 ⊢
      k_steps
      rename_i kF kN Tc kX
      exact hret _ ([(D, LCg.lst ys)] ++ news) _ _ kF (fun p hp => kN p (by simpa using (List.mem_cons.mp hp).elim .inl fun h => .inr (.inr (.inr (.inr h))))) ⟨_, rfl, fun q hq p hp => by rw [List.mem_singleton.mp hp]; exact hcD q (.tail _ (.tail _ (.tail _ hq))), DatIn.list (.head _) (hz.mono (fun _ h => absurd h List.not_mem_nil))⟩
  | mask x mk =>
    obtain ⟨q1, n1, t1, t2, t3, rfl, hm1⟩ := wish_inv hD
    unfold Does
    k_fill
    intro mean mg mb dp un gd cn cs fa ccd cl outer A₀ base h₀ L m s Q E B F X N T hk hd hu hret
    refine wpAny_call ?_
    k_dflt (refine' code_defC ?k1 ?k2 ?k3 ?k4 ?k5 ?kA ?kF ?kK ?k6 ?k7 ?k8 ?k9 ?kB ?kD ?_ ?c2 ?c3 ?c4; (case kA => exact rfl); (case kF => exact rfl); (case kK => assumption); (case k1 => k_asm); (case k2 => k_asm); (case k3 => k_asm); (case k4 => k_asm); (case k5 => k_asm); (case k6 => k_is); (case k7 => k_is); (case k8 => ktr_room); (case k9 => exact BindsTo.of_eq rfl); (case kB => exact rfl); (case kD => decide +kernel); (case c2 => exact rfl); (case c3 => exact rfl); (case c4 => exact rfl); k_whole; intro g' L' h' tk' cells' FG' F' N' Y' B' X' T' l1; (try k_lt l1); k_cells Y'; (try simp only [List.cons_append, List.nil_append] at N'); (try dsimp only); (try k_fold))
    rename_i o1 o2 o3 d1 d2 d3
    replace F' : Fr g' L' h' (fr []) := by with_unfolding_all exact F'
    replace d3 : o3.data = .cell (some (.ref q1)) := by with_unfolding_all exact d3
    replace d2 : o2.data = .cell (some (.int sz ts)) := by with_unfolding_all exact d2
    replace d1 : o1.data = .cell none := by with_unfolding_all exact d1
    k_steps
    rename_i nF lF oF tkF hG FF NF hA tkA tA uA vA hR FA NA keepA
    dsimp only at FA NA ⊢
    obtain ⟨hl3, hl2, hl1, hln⟩ := tkF
    have hofN : OwnOff news [lF] := fun p hp b hb => by
      rw [List.mem_singleton.mp hb]
      exact Nat.ne_of_lt (allLt_mem hln p hp)
    have hof3 : OwnOff news [L' + 1 + 1 + 1] := fun p hp b hb => by
      rw [List.mem_singleton.mp hb]
      exact Nat.ne_of_lt (Nat.lt_trans (l1 p hp) (Nat.lt_succ_of_lt (Nat.lt_succ_of_lt (Nat.lt_succ_self _))))
    unfold Stop
    with_unfolding_all refine my_for_range (n := 8) (σ := LlSt) hR (by rfl) (by rfl) (fun c => (lF, listOf c.vs.toArray c.n) :: (L' + 1 + 1 + 1, c.oE) :: (L' + 1 + 1, o2) :: (L' + 1, o3) :: news) (fun c => (Str.ofString "found", .ref lF) :: c.ex) (fun i c => (∃ ov, c.oE.data = .cell ov) ∧ DatAll [] c.vs (((eighths i).filter (letP sz (.mask x mk))).map Dat.int)) ⟨o1, [], 0, []⟩ (by rfl) FA NA rfl (fun _ h => h) ⟨⟨_, d1⟩, .nil⟩ ?_ ?_
    · rintro i ⟨oE, vs, n, ex⟩ tv I oI h tk hi ⟨⟨ov, hov⟩, hz⟩ hoff F1 N1
      refine wpAny_assign_Name ?_
      clear FA NA
      dsimp only at hov hz hoff F1 N1 ⊢
      rw [Int.zero_add]
      have hI3 : @Ne Nat (L' + 1 + 1 + 1) I := hoff (_, oE) (.tail _ (.head _))
      have hIF : @Ne Nat lF I := hoff (lF, _) (.head _)
      k_dflt (refine' storeX_C F1 N1 (c := L' + 1 + 1 + 1) rfl ?upd hov ?_ ?ka ?kb; (case ka => rfl); (case kb => rfl); (case upd => k_updF))
      intro h9 oE9 F9 N9 hov9
      clear F1 N1
      dsimp only at F9 N9 ⊢
      k_steps
      rename_i T hT FT NT lT
      obtain ⟨hTI, hTF, hT3, hT2, hT1, hTn⟩ := lT
      unfold Stop CoGo
      refine co_seq (.inr rfl) rfl (by show 3 ≤ sizeLine; decide) (by decide) (by rfl) (by rfl) (BName (Str.ofString "bit")) (fun j ys pool => pool = [] ∧ ∃ zs : List Int, DatAll [] ys (zs.map Dat.int) ∧ (zs = [] ↔ ∀ b ∈ [sz, 2 * sz, 4 * sz].take j, bitOk sz x mk i b = true)) _ (.head _) FT NT ⟨rfl, [], .nil, by simp⟩ (co_name (by rfl) (by rfl)) ?_ ?_
      · intro j v ys pool J oJ D C oC mC h tk E' hv hP hn hB lJD lDC hJ hp F1 N1
        obtain ⟨rfl, ws, hw, hwi⟩ := hP
        obtain ⟨b, tb, rfl, hb⟩ : ∃ b tb, v = .int b tb ∧ [sz, 2 * sz, 4 * sz][j]? = some b := by
          rcases j with _ | _ | _ | j
          · simp at hv; exact ⟨_, _, hv.symm, rfl⟩
          · simp at hv; exact ⟨_, _, hv.symm, rfl⟩
          · simp at hv; exact ⟨_, _, hv.symm, rfl⟩
          · simp at hv
        have hb0 : 1 ≤ b := by
          have := List.mem_of_getElem? hb
          simp at this
          omega
        have hb4 : b ≤ 32768 := by
          have := List.mem_of_getElem? hb
          simp at this
          omega
        have hu1 : x * sz ≤ 7 * 8192 := Int.mul_le_mul hW.2.1 hsz.2 (by omega) (by omega)
        have hu2 : mk * sz ≤ 7 * 8192 := Int.mul_le_mul hW.2.2.2.1 hsz.2 (by omega) (by omega)
        have hu3 : (i : Int) * sz ≤ 7 * 8192 := Int.mul_le_mul (by omega) hsz.2 (by omega) (by omega)
        have hq1 : 0 ≤ x * sz := Int.mul_nonneg hW.1 (by omega)
        have hq2 : 0 ≤ mk * sz := Int.mul_nonneg hW.2.2.1 (by omega)
        have hq3 : 0 ≤ (i : Int) * sz := Int.mul_nonneg (by omega) (by omega)
        unfold BName at hB
        clear FT NT
        simp only [List.nil_append] at N1
        dsimp only at F1 N1 ⊢
        k_steps
        · rename_i c1 c2
          have hk : bitOk sz x mk i b = false := by simp [bitOk, bitAt, c1, c2]
          exact CoEnd.same F1 N1 (fun _ h => h) ⟨rfl, ws ++ [b], by rw [List.map_append]; exact all_snoc hw (.int _ _), by rw [forall_take_succ hb]; simp [hk]⟩
        · rename_i c1 c2
          have hk : bitOk sz x mk i b = true := by simp [bitOk, bitAt, c1, c2]
          exact CoEnd.same F1 N1 (fun _ h => h) ⟨rfl, ws, hw, by rw [forall_take_succ hb, hwi]; simp [hk]⟩
        · rename_i c1
          have hk : bitOk sz x mk i b = true := by simp [bitOk, bitAt, c1]
          exact CoEnd.same F1 N1 (fun _ h => h) ⟨rfl, ws, hw, by rw [forall_take_succ hb, hwi]; simp [hk]⟩
      · refine' co_fin_assign (P := fun ys pool => pool = [] ∧ ∃ zs : List Int, DatAll [] ys (zs.map Dat.int) ∧ (zs = [] ↔ ∀ b ∈ [sz, 2 * sz, 4 * sz].take 3, bitOk sz x mk i b = true)) ?ka ?kb ?kc ?_; (case ka => rfl); (case kb => rfl); (case kc => rfl)
        intro D ys pool h tk hP hcD hpl F1 N1
        obtain ⟨rfl, ws, hw, hwi⟩ := hP
        simp only [List.nil_append] at N1
        clear FT NT
        have hlD : @LT.lt Nat _ lF D := hcD (lF, _) (.tail _ (.tail _ (.head _)))
        have hvl : vs.length ≤ 8 := by
          rw [datAll_len hz, List.length_map]
          exact Nat.le_trans (List.length_filter_le _ _) (by simp [eighths]; omega)
        dsimp only at F1 N1 ⊢
        k_steps
        · rename_i lE hE FE NE lEo ht h10 F10 N10
          have hok : letP sz (.mask x mk) i = true := by
            have hw0 : ws = [] := by simpa using ht
            exact List.all_eq_true.mpr fun b hb => hwi.mp hw0 b hb
          refine FoEnd.intro ⟨oE9, vs ++ [.int i tv], n + 1, (Str.ofString "odd", .ref D) :: ex⟩ F10 N10 (by refine fr_ext [Str.ofString "odd", Str.ofString "found"] (by repeat (first | exact trivial | refine ⟨rfl, ?_⟩)) ?_; intro y hy; simp only [noneOf, and_true] at hy; simp only [fr, hy, if_false]) (fun p hp => by simp only [List.mem_cons] at hp ⊢; rcases hp with h | h | h | h | h <;> simp [h]) (by simp) ?_ ⟨⟨_, hov9⟩, by rw [eighths_succ, List.filter_append, List.map_append, List.filter_cons_of_pos hok]; exact all_snoc hz (.int _ _)⟩
          intro p hp
          simp only [List.mem_cons] at hp
          rcases hp with h | h | h | h | h
          · exact .inl ⟨(lF, _), .head _, by rw [h]⟩
          · exact .inl ⟨(_, oE), .tail _ (.head _), by rw [h]⟩
          · exact .inl ⟨_, .tail _ (.tail _ (.head _)), by rw [h]⟩
          · exact .inl ⟨_, .tail _ (.tail _ (.tail _ (.head _))), by rw [h]⟩
          · exact .inl ⟨p, .tail _ (.tail _ (.tail _ (.tail _ h))), rfl⟩
        · rename_i lE hE F10 N10 lEo ht
          have hno : ¬ letP sz (.mask x mk) i = true := fun h => by
            have hw0 : ¬ ws = [] := by simpa using ht
            exact hw0 (hwi.mpr fun b hb => List.all_eq_true.mp h b hb)
          refine FoEnd.intro ⟨oE9, vs, n, (Str.ofString "odd", .ref D) :: ex⟩ F10 N10 (by refine fr_ext [Str.ofString "odd", Str.ofString "found"] (by repeat (first | exact trivial | refine ⟨rfl, ?_⟩)) ?_; intro y hy; simp only [noneOf, and_true] at hy; simp only [fr, hy, if_false]) (fun p hp => by simp only [List.mem_cons] at hp ⊢; rcases hp with h | h | h | h | h <;> simp [h]) (by simp) ?_ ⟨⟨_, hov9⟩, by rw [eighths_succ, List.filter_append, List.filter_cons_of_neg hno]; simpa using hz⟩
          intro p hp
          simp only [List.mem_cons] at hp
          rcases hp with h | h | h | h | h
          · exact .inl ⟨(lF, _), .head _, by rw [h]⟩
          · exact .inl ⟨(_, oE), .tail _ (.head _), by rw [h]⟩
          · exact .inl ⟨_, .tail _ (.tail _ (.head _)), by rw [h]⟩
          · exact .inl ⟨_, .tail _ (.tail _ (.tail _ (.head _))), by rw [h]⟩
          · exact .inl ⟨p, .tail _ (.tail _ (.tail _ (.tail _ h))), rfl⟩
    · rintro ⟨oE, vs, n, ex⟩ h tk ⟨⟨ov, hov⟩, hz⟩ F1 N1
      clear FA NA
      dsimp only at hov hz F1 N1 ⊢
      k_steps
      rename_i kF kN Tc kX
      exact hret _ ([(lF, listOf vs.toArray n)] ++ news) _ _ kF (fun p hp => kN p (by simpa using (List.mem_cons.mp hp).elim .inl fun h => .inr (.inr (.inr (.inr h))))) ⟨_, rfl, fun q hq p hp => by rw [List.mem_singleton.mp hp]; exact allLt_mem hln q hq, DatIn.list (.head _) (hz.mono (fun _ h => absurd h List.not_mem_nil))⟩
end
end
section
open PySem.Calls
theorem own_of {news : Led} {L c : Nat} (h : ∀ p ∈ news, @LT.lt Nat _ p.1 L) (hc : L < c) : OwnOff news [c] := fun p hp b hb => by
  rw [List.mem_singleton.mp hb]
  exact Nat.ne_of_lt (Nat.lt_trans (h p hp) hc)
theorem own_cell1 {news : Led} {L : Nat} (h : ∀ p ∈ news, @LT.lt Nat _ p.1 L) : OwnOff news [L + 1] := own_of h (Nat.lt_succ_self _)
theorem own_cell2 {news : Led} {L : Nat} (h : ∀ p ∈ news, @LT.lt Nat _ p.1 L) : OwnOff news [L + 1 + 1] := own_of h (by omega)
theorem own_cell3 {news : Led} {L : Nat} (h : ∀ p ∈ news, @LT.lt Nat _ p.1 L) : OwnOff news [L + 1 + 1 + 1] := own_of h (by omega)
theorem own_lt {news : Led} {c : Nat} (h : ∀ p ∈ news, @LT.lt Nat _ p.1 c) : OwnOff news [c] := fun p hp b hb => by
  rw [List.mem_singleton.mp hb]
  exact Nat.ne_of_lt (h p hp)
structure LfSt where
  vs : List Value
  n : Nat
  ok : Bool
  pool : Led
  ex : List (Str × Value)
structure RwSt where
  vs : List Value
  n : Nat
  pool : Led
  ex : List (Str × Value)
inductive Own where
  | own (W : Wish)
  | oth (d : Dat)
abbrev Ent := Int × Own
abbrev Row := Int × List Ent
def ownD (s : Int) : Own → Dat
  | .own W => wishD s W
  | .oth d => d
def entD (s : Int) (e : Ent) : Dat := .tuple [.int e.1, ownD s e.2]
def rowD (s : Int) (r : Row) : Dat := .tuple [.int r.1, .tuple (r.2.map (entD s))]
def rowsD (s : Int) (R : List Row) : Dat := .list (R.map (rowD s))
def ownOk (field : Int) (e : Ent) : Prop := match e.2 with
  | .own W => e.1 = field ∧ W.ok
  | .oth d => e.1 ≠ field ∧ kqdOk 5 d = true
def rowOk (field : Int) (r : Row) : Prop := (∀ e ∈ r.2, ownOk field e) ∧ r.2.length ≤ 3
def rowsOk (field : Int) (R : List Row) : Prop := (∀ r ∈ R, rowOk field r) ∧ R.length ≤ 4
def okPair (field s : Int) : Prop := field = 4 ∧ s = 1 ∨ field = 7 ∧ s = 32 ∨ field = 3 ∧ s = 512 ∨ field = 8 ∧ s = 8192
theorem okPair.size {f s : Int} (h : okPair f s) : okSize s := by
  rcases h with h | h | h | h
  · exact .inl h.2
  · exact .inr (.inl h.2)
  · exact .inr (.inr (.inl h.2))
  · exact .inr (.inr (.inr h.2))
def notP (i : Wish → Wish → Bool) (W : Wish) (e : Ent) : Bool := match e.2 with
  | .own V => !(i V W)
  | .oth _ => true
def metP (m : Wish → Wish → Bool) (W : Wish) (e : Ent) : Bool := match e.2 with
  | .own V => m V W
  | .oth _ => true
def askP (i : Wish → Wish → Bool) (W : Wish) (e : Ent) : Bool := match e.2 with
  | .own V => !(i W V)
  | .oth _ => true
def notF (i : Wish → Wish → Bool) (W : Wish) (R : List Row) : List Row := R.filter fun r => r.2.all (notP i W)
def soF (m i : Wish → Wish → Bool) (W : Wish) (R : List Row) : List Row := (R.filter fun r => r.2.all (metP m W)).map fun r => (r.1, r.2.filter (askP i W))
theorem row_inv {news : Led} {v : Value} {s : Int} {r : Row} (h : DatIn news v (rowD s r)) : ∃ t n tp ta vs k, v = .ref t ∧ (t, tupObj [.int r.1 tp, .ref ta] n) ∈ news ∧ (ta, tupObj vs k) ∈ news ∧ DatAll news vs (r.2.map (entD s)) := by
  obtain ⟨t, vs, n, rfl, hm, ha⟩ := tuple_inv h
  cases ha with
  | cons h1 h2 =>
    cases h2 with
    | cons h2 h3 =>
      cases h3
      obtain ⟨tp, rfl⟩ := int_inv h1
      obtain ⟨ta, us, k, rfl, hm2, ha2⟩ := tuple_inv h2
      exact ⟨t, n, tp, ta, us, k, rfl, hm, hm2, ha2⟩
theorem ent_inv {news : Led} {v : Value} {s : Int} {e : Ent} (h : DatIn news v (entD s e)) : ∃ t n tf v2, v = .ref t ∧ (t, tupObj [.int e.1 tf, v2] n) ∈ news ∧ DatIn news v2 (ownD s e.2) := by
  obtain ⟨t, vs, n, rfl, hm, ha⟩ := tuple_inv h
  cases ha with
  | cons h1 h2 =>
    cases h2 with
    | cons h2 h3 =>
      cases h3
      obtain ⟨tp, rfl⟩ := int_inv h1
      exact ⟨t, n, tp, _, rfl, hm, h2⟩
theorem kqd_wish (s : Int) (W : Wish) : kqdOk 5 (wishD s W) = true := by
  cases W <;> simp [wishD, kqdOk] <;> decide +kernel
theorem kqd_ent {field s : Int} {e : Ent} (h : ownOk field e) : kqdOk 6 (entD s e) = true := by
  obtain ⟨f, o⟩ := e
  cases o with
  | own W => cases W <;> simp [entD, ownD, wishD, kqdOk] <;> decide +kernel
  | oth d =>
    have := h.2
    simp only [entD, ownD, kqdOk]
    simp [this, kqdOk]
theorem kqd_wish8 (s : Int) (W : Wish) : kqdOk 8 (wishD s W) = true := by
  cases W <;> simp [wishD, kqdOk] <;> decide +kernel
theorem pair_same {h₀ h : Heap} {L : Addr} {l : Led} {t : Addr} {a b c d : Value} {n k : Nat} (N : News h₀ L h l) (h1 : (t, tupObj [a, b] n) ∈ l) (h2 : (t, tupObj [c, d] k) ∈ l) : a = c ∧ b = d := by
  have e1 := (N _ h1).1
  have e2 := (N _ h2).1
  rw [e1] at e2
  simp [tupObj] at e2
  exact e2.1
theorem filter_one {α : Type} {p : α → Bool} {x : α} : (some x).toList.filter p = if p x then [x] else [] := by
  cases h : p x <;> simp [h]
theorem notF_snoc {i : Wish → Wish → Bool} {W : Wish} {R : List Row} {k : Nat} {r : Row} (h : R[k]? = some r) : notF i W (R.take (k + 1)) = notF i W (R.take k) ++ (if r.2.all (notP i W) then [r] else []) := by
  unfold notF
  rw [List.take_add_one, h, List.filter_append, filter_one]
theorem soF_snoc {m i : Wish → Wish → Bool} {W : Wish} {R : List Row} {k : Nat} {r : Row} (h : R[k]? = some r) : soF m i W (R.take (k + 1)) = soF m i W (R.take k) ++ (if r.2.all (metP m W) then [(r.1, r.2.filter (askP i W))] else []) := by
  unfold soF
  rw [List.take_add_one, h, List.filter_append, List.map_append, filter_one]
  split <;> rfl
theorem all_get {news : Led} {α : Type} {f : α → Dat} {l : List α} {vs : List Value} {i : Nat} {v : Value} (h : DatAll news vs (l.map f)) (hv : vs[i]? = some v) : ∃ a, l[i]? = some a ∧ DatIn news v (f a) := by
  obtain ⟨d, hd, hD⟩ := all_at h hv
  obtain ⟨a, ha, rfl⟩ := map_at hd
  exact ⟨a, ha, hD⟩
theorem news_mv4 {h₀ h : Heap} {L : Addr} {tl l : Led} {a b c d : Addr × Obj} (N : News h₀ L h (tl ++ (a :: b :: c :: d :: l))) : News h₀ L h (a :: b :: c :: d :: (tl ++ l)) := fun p hp => N p (by
  simp only [List.mem_cons, List.mem_append] at hp ⊢
  rcases hp with h | h | h | h | h | h <;> simp [h])
theorem news_mv2 {h₀ h : Heap} {L : Addr} {tl l : Led} {d a b : Addr × Obj} (N : News h₀ L h (d :: (tl ++ (a :: b :: l)))) : News h₀ L h (d :: a :: b :: (tl ++ l)) := fun p hp => N p (by
  simp only [List.mem_cons, List.mem_append] at hp ⊢
  rcases hp with h | h | h | h | h <;> simp [h])
theorem mem_mv3 {t l k : Led} {a b c : Addr × Obj} : ∀ p ∈ [a, b, c] ++ ((t ++ l) ++ k), p ∈ t ++ (a :: b :: c :: (l ++ k)) := fun p hp => by
  simp only [List.mem_cons, List.mem_append, List.not_mem_nil, or_false] at hp ⊢
  rcases hp with (h | h | h) | (h | h) | h <;> simp [h]
theorem app_r {a b c : Led} {p : Addr × Obj} (h : p ∈ b ++ c) : p ∈ (a ++ b) ++ c := by
  rw [List.append_assoc]; exact List.mem_append.mpr (.inr h)
theorem app_l {a b c : Led} {p : Addr × Obj} (h : p ∈ a ++ c) : p ∈ (a ++ b) ++ c := by
  simp only [List.mem_append] at h ⊢
  exact h.elim (fun h => .inl (.inl h)) .inr
theorem own_gt {tl l : Led} {c : Nat} (h : OwnOff l [c]) (hX : ∀ p ∈ tl, @LT.lt Nat _ c p.1) : OwnOff (tl ++ l) [c] := fun p hp b hb => by
  rcases List.mem_append.mp hp with hp | hp
  · rw [List.mem_singleton.mp hb]
    exact Nat.ne_of_gt (hX p hp)
  · exact h p hp b hb
theorem own_cons {a : Addr × Obj} {l : Led} {c : Nat} (h : OwnOff l [c]) (h1 : @Ne Nat a.1 c) : OwnOff (a :: l) [c] := fun p hp b hb => by
  rcases List.mem_cons.mp hp with rfl | hp
  · rw [List.mem_singleton.mp hb]; exact h1
  · exact h p hp b hb
theorem own_app {tl l X : Led} {c : Nat} {o : Obj} (h : OwnOff l [c]) (hX : ∀ q ∈ X, ∀ p ∈ tl, q.1 < p.1) (hc : ((c : Addr), o) ∈ X) : OwnOff (tl ++ l) [c] := fun p hp b hb => by
  rcases List.mem_append.mp hp with hp | hp
  · rw [List.mem_singleton.mp hb]
    exact Nat.ne_of_gt (hX _ hc p hp)
  · exact h p hp b hb
def ownsOf (s : Int) (l : List Ent) : List (List Int) := l.filterMap fun e => match e.2 with
  | .own V => some (letsS s V)
  | .oth _ => none
def inL (s : Int) (V W : Wish) : Bool := (letsS s V).all fun a => decide (a ∈ letsS s W)
def meetL (s : Int) (V W : Wish) : Bool := (letsS s W).any fun a => decide (a ∈ letsS s V)
theorem letsS_len (s : Int) (W : Wish) : (letsS s W).length ≤ 8 := Nat.le_trans (List.length_filter_le _ _) (by simp [eighths])
theorem okLL (l : List (List Int)) : ∀ d ∈ l.map eD, kqdOk 8 d = true := by
  intro d hd
  obtain ⟨a, _, rfl⟩ := List.mem_map.mp hd
  simp [eD, kqdOk]
theorem ownsOf_snoc {s : Int} {l : List Ent} {k : Nat} {e : Ent} (h : l[k]? = some e) : ownsOf s (l.take (k + 1)) = ownsOf s (l.take k) ++ (match e.2 with | .own V => [letsS s V] | .oth _ => []) := by
  unfold ownsOf
  rw [List.take_add_one, h, List.filterMap_append]
  congr 1
  obtain ⟨f, o⟩ := e
  cases o <;> rfl
theorem ownsOf_all {s : Int} {p : List Int → Prop} {l : List Ent} : (∀ a ∈ ownsOf s l, p a) ↔ ∀ e ∈ l, ∀ V, e.2 = .own V → p (letsS s V) := by
  unfold ownsOf
  constructor
  · intro h e he V hV
    exact h _ (List.mem_filterMap.mpr ⟨e, he, by rw [hV]⟩)
  · intro h a ha
    obtain ⟨e, he, hE⟩ := List.mem_filterMap.mp ha
    cases hV : e.2 with
    | own V => rw [hV] at hE; cases hE; exact h e he V hV
    | oth d => rw [hV] at hE; cases hE
theorem notP_iff {i : Wish → Wish → Bool} {W : Wish} {e : Ent} : notP i W e = true ↔ ∀ V, e.2 = .own V → ¬ i V W = true := by
  obtain ⟨f, o⟩ := e
  cases o <;> simp [notP]
theorem metP_iff {i : Wish → Wish → Bool} {W : Wish} {e : Ent} : metP i W e = true ↔ ∀ V, e.2 = .own V → i V W = true := by
  obtain ⟨f, o⟩ := e
  cases o <;> simp [metP]
def leftP (m i : Wish → Wish → Bool) (W : Wish) (e : Ent) : Bool := match e.2 with
  | .own V => m V W && !(i W V)
  | .oth _ => true
theorem left_ask {m i : Wish → Wish → Bool} {W : Wish} {l : List Ent} (h : l.all (metP m W) = true) : l.filter (leftP m i W) = l.filter (askP i W) := by
  refine List.filter_congr fun e he => ?_
  have h1 := List.all_eq_true.mp h e he
  obtain ⟨f, o⟩ := e
  cases o with
  | own V => simp only [metP] at h1; simp [leftP, askP, h1]
  | oth d => rfl
theorem all_snoc_take {α : Type} {p : α → Bool} {l : List α} {i : Nat} {x : α} (hx : l[i]? = some x) : (l.take (i + 1)).all p = ((l.take i).all p && p x) := by
  rw [List.take_add_one, hx]
  simp
theorem filter_snoc_take {α : Type} {p : α → Bool} {l : List α} {i : Nat} {x : α} (hx : l[i]? = some x) : (l.take (i + 1)).filter p = (l.take i).filter p ++ (if p x then [x] else []) := by
  rw [List.take_add_one, hx, List.filter_append, filter_one]
section
variable {prog : Program} {w : World} {A : Around} {E : Value → Shared → Prop} {s : Shared} {h₀ : Heap} {L : Addr} {m : Str → Option Value}
theorem my_tup {value slice : Expr} {q : Addr} {vs : List Value} {k : Int} {u : Tok} {Q : Value → Shared → Prop} (hl : s.heap.IsTuple q vs.toArray) (h0 : 0 ≤ k) (h1 : k < (vs.length : Int)) (h2 : vs.length < 1000)
    (h : ∀ v, vs[k.toNat]? = some v → Q v s)
    (hs : subscripted slice false (.ref q) (.int k u) = operate [.ref q, .int k u] (getItem (.ref q) (.int k u)) := by with_unfolding_all rfl) :
    wpAny (model prog w) A (subscriptTail value slice (.ref q) (.int k u)) Q E s := by
  have hk : k.toNat < vs.length := by omega
  exact tail_any hl.typeIs slot_tuple_getitem.lookup (getItem_tuple hl (by omega) (by simp; omega) (seqIndex_of h0 (by simp; omega)) (x := vs[k.toNat]) (by simp [hk]) (h _ (by simp))) hs
theorem my_tupleOf {l : Addr} {vs : List Value} {n : Nat} {news : Led} {Q : Value → Shared → Prop} (F : Fr h₀ L s.heap m) (N : News h₀ L s.heap news) (hm : (l, W.listOf vs.toArray n) ∈ news) (hz : vs.length ≤ 1000)
    (h : ∀ D h', Fr h₀ L h' m → News h₀ L h' ((D, tupObj vs 0) :: news) → (∀ p ∈ news, p.1 < D) → Q (.ref D) { s with heap := h' }) : wpAny (model prog w) A (call (.type "tuple") [.ref l]) Q E s := by
  have hl : s.heap.IsList l vs.toArray := ⟨_, (N _ hm).1, rfl, n, rfl⟩
  exact kde_tupleOf F N hl (by rw [List.size_toArray]; omega) (by simp) h
theorem tupIn0 {K : Frag} {a : Addr} {od : Option Addr} {items : Array Value} {n : Nat} {sl : Array (Option Value)} (X : K.In h₀) (F : Fr h₀ L s.heap m) (ho : K.lookup a = some ⟨.type "tuple", od, .seq items n, sl⟩) : s.heap.IsTuple a items :=
  ⟨_, F.keep _ _ (X _ _ ho), rfl, n, rfl⟩
set_option maxHeartbeats 0 in
theorem bits_item : ∀ {value slice : Expr} {field sz : Int} {tf : Tok} {Q : Value → Shared → Prop}, (hd.heap_1 w.params).In h₀ → Fr h₀ L s.heap m → okPair field sz → (∀ t, Q (.int (bitsOf sz) t) s) →
    (subscripted slice false (.ref 22) (.int field tf) = operate [.ref 22, .int field tf] (getItem (.ref 22) (.int field tf))) →
    wpAny (model PySem.Challenge.rw_xm0981_01.row.prog w) A (subscriptTail value slice (.ref 22) (.int field tf)) Q E s := by
  k_fill
  intro value slice field sz tf Q X F hp h hs
  rcases hp with ⟨rfl, rfl⟩ | ⟨rfl, rfl⟩ | ⟨rfl, rfl⟩ | ⟨rfl, rfl⟩
  · refine my_tup (vs := [_, _, _, _, _, _, _, _, _, _]) (tupIn0 X F (by k_is)) (by decide) (by decide) (by decide) ?_ hs
    intro v hv
    simp at hv
    subst hv
    exact h _
  · refine my_tup (vs := [_, _, _, _, _, _, _, _, _, _]) (tupIn0 X F (by k_is)) (by decide) (by decide) (by decide) ?_ hs
    intro v hv
    simp at hv
    subst hv
    exact h _
  · refine my_tup (vs := [_, _, _, _, _, _, _, _, _, _]) (tupIn0 X F (by k_is)) (by decide) (by decide) (by decide) ?_ hs
    intro v hv
    simp at hv
    subst hv
    exact h _
  · refine my_tup (vs := [_, _, _, _, _, _, _, _, _, _]) (tupIn0 X F (by k_is)) (by decide) (by decide) (by decide) ?_ hs
    intro v hv
    simp at hv
    subst hv
    exact h _
end
end
section
open PySem.Calls
section
set_option maxHeartbeats 0 in
theorem rows_if_not_does (w : World) (news : Led) (vr vw : Value) (R : List Row) (W : Wish) (field sz : Int) (tf : Tok) (hp : okPair field sz) (hW : W.ok) (hR : rowsOk field R) (hDr : DatIn news vr (rowsD sz R)) (hDw : DatIn news vw (wishD sz W)) :
   Does w 4 120 88 news [vr, .int field tf, vw] (fun r news' => ∃ tl, news' = tl ++ news ∧ (∀ q ∈ news, ∀ p ∈ tl, q.1 < p.1) ∧ DatIn (tl ++ news) r (rowsD sz (notF (withinS sz) W R))) := by
  k_with_none
  k_with "k_ne" => (refine neN ?_; (try dsimp only); first | with_reducible assumption | exact Ne.symm (by with_reducible assumption) | (refine Nat.ne_of_gt ?_; k_extra "lt") | (refine Nat.ne_of_lt ?_; k_extra "lt") | omega)
  k_with "lt" => first | with_reducible assumption | exact And.left (by with_reducible assumption) | exact And.left (And.right (by with_reducible assumption)) | exact And.left (And.right (And.right (by with_reducible assumption))) | exact And.left (And.right (And.right (And.right (by with_reducible assumption)))) | exact And.left (And.right (And.right (And.right (And.right (by with_reducible assumption))))) | exact And.left (And.right (And.right (And.right (And.right (And.right (by with_reducible assumption)))))) | exact And.left (And.right (And.right (And.right (And.right (And.right (And.right (by with_reducible assumption)))))))
  k_with "exec For Name Call cons nil" => k_dflt (refine wpAny_For ?_ (by intro _; rfl))
  k_with "exec For Tuple Name cons nil" => k_dflt (refine wpAny_For ?_ (by intro _; rfl))
  k_with "pyIter ref" => refine Stop.go ?_
  k_with "FoPost" => (dsimp only [FoPost])
  k_with "eval ListComp" => k_dflt (refine co_eval (by with_unfolding_all rfl) (by rfl) (by decide) ?_)
  k_with "exec Assign cons ListComp" => k_dflt (refine co_assign (by with_unfolding_all rfl) (by with_unfolding_all rfl) (by rfl) (by decide) ?_)
  k_with "subscriptTail" => (k_here; (with_reducible show wpAny _ _ (subscriptTail _ _ (Value.ref 22) (Value.int _ _)) _ _ _); k_dflt (refine' bits_item ?zk19 ?zk29 ?zk39 ?_ ?zk49; (case zk19 => k_asm); (case zk29 => k_asm); (case zk39 => assumption); (case zk49 => with_unfolding_all rfl)); intro _)
  k_with "call ref" => (k_here; (with_reducible show wpAny _ _ (call (Value.ref 64) _ _) _ _ _); (refine' Does.use (is_wish_within_does _ _ _ _ _ _ _ _ _ (okPair.size (by assumption)) (by first | rfl | assumption) ?zuw9 ?zua9 ?zub9) ?zuB9 ?zuF9 ?zuX9 ?zuN9 ?zuT9 ?zuK9 ?zuD9 ?zuU9 ?_); (case zuB9 => first | k_asm | ktn_no "use: the frames below"); (case zuF9 => first | k_asm | ktn_no "use: the frame"); (case zuX9 => first | k_asm | ktn_no "use: the written part"); (case zuN9 => first | k_asm | ktn_no "use: the ledger"); (case zuT9 => first | k_asm | ktn_no "use: the top"); (case zuK9 => first | exact rfl | assumption | ktn_no "use: the caller"); (case zuD9 => first | ktr_room | ktn_no "use: room"); (case zuU9 => first | ktr_units | ktn_no "use: units"); (case zua9 => (first | assumption | (refine' DatIn.mono ?zum9 ?zud9; (case zud9 => assumption); (case zum9 => (intro p9 h9; simp [h9]))))); (case zub9 => (first | assumption | (refine' DatIn.mono ?zum9 ?zud9; (case zud9 => assumption); (case zum9 => (intro p9 h9; simp [h9]))))); (case zuw9 => assumption); intro _ _ _ _ _ _ hp9; obtain ⟨e9, er9⟩ := hp9; subst e9; subst er9; (try dsimp only))
  k_with "compareOp Eq" => (k_here; (with_reducible show wpAny _ _ (compareOp CmpOp.Eq (Value.ref _) (Value.ref _)) _ _ _); k_dflt (refine' kqd_eq ?zN9 ?za9 ?zb9 ?zc9 ?zd9 ?ze9 ?zap9 ?zbp9 ?zcp9 (n₂ := []) (es := []) ?zdp9 (fun _ h => nomatch h) ?zl9 ?zlp9 ?zn9 ?_; (case zN9 => k_asm); (case za9 => k_mem); (case zb9 => rfl); (case zc9 => rfl); (case zd9 => with_reducible assumption); (case ze9 => (intro p9 h9; (first | (exact absurd h9 List.not_mem_nil) | simp [h9]))); (case zap9 => k_mem); (case zbp9 => rfl); (case zcp9 => rfl); (case zdp9 => exact DatAll.nil); (case zl9 => (first | assumption | exact okE _)); (case zlp9 => exact fun _ h => nomatch h); (case zn9 => ktr_units); k_whole))
  obtain ⟨lr, vrs, nr, rfl, hmr, har⟩ := list_inv hDr
  unfold Does
  k_fill
  intro mean mg mb dp un gd cn cs fa ccd cl outer A₀ base h₀ L m s Q E B F X N T hk hd hu hret
  refine wpAny_call ?_
  k_dflt (refine' code_defC ?k1 ?k2 ?k3 ?k4 ?k5 ?kA ?kF ?kK ?k6 ?k7 ?k8 ?k9 ?kB ?kD ?_ ?c2 ?c3 ?c4; (case kA => exact rfl); (case kF => exact rfl); (case kK => assumption); (case k1 => k_asm); (case k2 => k_asm); (case k3 => k_asm); (case k4 => k_asm); (case k5 => k_asm); (case k6 => k_is); (case k7 => k_is); (case k8 => ktr_room); (case k9 => exact BindsTo.of_eq rfl); (case kB => exact rfl); (case kD => decide +kernel); (case c2 => exact rfl); (case c3 => exact rfl); (case c4 => exact rfl); k_whole; intro g' L' h' tk' cells' FG' F' N' Y' B' X' T' l1; (try k_lt l1); k_cells Y'; (try simp only [List.cons_append, List.nil_append] at N'); (try dsimp only); (try k_fold))
  rename_i o1 o2 o3 d1 d2 d3
  replace F' : Fr g' L' h' (fr [(Str.ofString "rows", .ref lr)]) := by with_unfolding_all exact F'
  replace d3 : o3.data = .cell (some (.int field tf)) := by with_unfolding_all exact d3
  replace d2 : o2.data = .cell (some vw) := by with_unfolding_all exact d2
  replace d1 : o1.data = .cell none := by with_unfolding_all exact d1
  have hof3 := own_cell3 l1
  k_steps
  rename_i lF h5 hlF t5 D5 h6 l6 h7 h8 h9 oB F9 N9 d9
  clear l6 d1
  have hlF' : AllLt lF ((L' + 1 + 1 + 1, oB) :: (L' + 1 + 1, o2) :: (L' + 1, o3) :: news) := ⟨hlF.1, hlF.2.1, hlF.2.2.1, hlF.2.2.2⟩
  unfold Stop
  with_unfolding_all refine my_for_seq (σ := RwSt) (.inl rfl) rfl (fun c => (lF, listOf c.vs.toArray c.n) :: (c.pool ++ ((L' + 1 + 1 + 1, oB) :: (L' + 1 + 1, o2) :: (L' + 1, o3) :: news))) (fun c => (Str.ofString "found", .ref lF) :: (Str.ofString "rows", .ref lr) :: c.ex) (fun i c => DatAll (c.pool ++ news) c.vs ((notF (withinS sz) W (R.take i)).map (rowD sz)) ∧ OwnOff (c.pool ++ ((L' + 1 + 1 + 1, oB) :: (L' + 1 + 1, o2) :: (L' + 1, o3) :: news)) [lF] ∧ (∀ q ∈ news, ∀ p ∈ c.pool, q.1 < p.1)) ⟨[], 0, [], []⟩ (by rfl) F9 N9 rfl (fun _ h => .tail _ h) (fun _ _ _ => .tail _ (List.mem_append.mpr (.inr (.tail _ (.tail _ (.tail _ hmr)))))) ⟨.nil, own_lt (fun p hp => allLt_mem hlF' p hp), fun _ _ _ h => absurd h List.not_mem_nil⟩ ?_ ?_
  · rintro i ⟨vs, n, pool, ex⟩ v I oI h tk hv ⟨hz, hown, hord⟩ hoff F1 N1
    obtain ⟨r, hr, hrD⟩ := all_get har hv
    obtain ⟨t, nt, tp, ta, us, kt, rfl, ht, hta, hua⟩ := row_inv hrD
    have hIF : @Ne Nat lF I := hoff (lF, _) (.head _)
    clear F9 N9

    dsimp only at hz hown hord hoff F1 N1 ⊢
    k_steps
    rename_i h7 F0 N0 h8 h9 F2 N2
    clear F0 N0
    have hul : us.length = r.2.length := by rw [datAll_len hua, List.length_map]
    have hr3 : rowOk field r := hR.1 r (List.mem_of_getElem? hr)
    have hvl : vs.length ≤ 4 := by
      rw [datAll_len hz, List.length_map]
      exact Nat.le_trans (List.length_filter_le _ _) (Nat.le_trans (List.length_take_le' _ _) hR.2)
    unfold Stop CoGo
    refine co_seq (.inr rfl) rfl (by show us.length ≤ sizeLine; rw [hul]; exact Nat.le_trans hr3.2 (by decide)) (by decide) (by rfl) (by rfl) (BPair _ (Str.ofString "own_field") (Str.ofString "own")) (fun j ys pool => pool = [] ∧ ∃ ds : List Dat, DatAll news ys ds ∧ (∀ d ∈ ds, kqdOk 8 d = true) ∧ (ds = [] ↔ ∀ e ∈ r.2.take j, notP (withinS sz) W e = true)) _ (.tail _ (.tail _ (List.mem_append.mpr (.inr (.tail _ (.tail _ (.tail _ hta))))))) F2 N2 ⟨rfl, [], .nil, (fun _ h => absurd h List.not_mem_nil), by simp⟩ (co_pair (by rfl) (by rfl) (by rfl) (by decide) (by rfl) ?_) ?_ ?_
    · intro j v hv
      obtain ⟨e, he, heD⟩ := all_get hua hv
      obtain ⟨t', n', tf', v2, rfl, hm', _⟩ := ent_inv heD
      exact ⟨_, _, _, _, rfl, .tail _ (.tail _ (List.mem_append.mpr (.inr (.tail _ (.tail _ (.tail _ hm'))))))⟩
    · intro j v ys pool' J oJ D C oC mC h tk E' hv hP hn hB lJD lDC hJ hpo F1 N1
      obtain ⟨rfl, ds, hds, hdk, hdi⟩ := hP
      obtain ⟨e, he, heD⟩ := all_get hua hv
      obtain ⟨t', n', tf', v2, rfl, hm', hD2⟩ := ent_inv heD
      obtain ⟨t'', w1, w2, n'', e1, hm'', hB1, hB2⟩ := hB
      cases e1
      have hin : (t', tupObj [.int e.1 tf', v2] n') ∈ (I, oI) :: (lF, PySem.W.listOf vs.toArray n) :: (pool ++ (L' + 1 + 1 + 1, oB) :: (L' + 1 + 1, o2) :: (L' + 1, o3) :: news) := .tail _ (.tail _ (List.mem_append.mpr (.inr (.tail _ (.tail _ (.tail _ hm'))))))
      obtain ⟨rfl, rfl⟩ := pair_same N2 hm'' hin
      have heo : ownOk field e := hr3.1 e (List.mem_of_getElem? he)
      clear F2 N2
      simp only [List.nil_append] at N1
      dsimp only at F1 N1 ⊢
      obtain ⟨f, o⟩ := e
      cases o with
      | own V =>
        obtain ⟨hf, hV⟩ := heo
        dsimp only at hf
        subst hf
        dsimp only [ownD] at hD2 hB1 hm''
        k_steps
        · rename_i h0 c0 h10 t10 F10 N10 ht
          exact CoEnd.same F10 N10 (fun _ h => h) ⟨rfl, ds ++ [wishD sz V], all_snoc hds hD2, (fun d hd => (List.mem_append.mp hd).elim (hdk d) fun h => by rw [List.mem_singleton.mp h]; exact kqd_wish8 _ _), by rw [forall_take_succ he]; simp [notP, ht]⟩
        · rename_i h0 c0 h10 t10 F10 N10 ht
          exact CoEnd.same F10 N10 (fun _ h => h) ⟨rfl, ds, hds, hdk, by rw [forall_take_succ he, hdi]; simp [notP, ht]⟩
        · rename_i h0
          exact absurd rfl h0
      | oth d =>
        obtain ⟨hf, _⟩ := heo
        dsimp only at hf hB1 hm''
        k_steps
        · rename_i h0 c0
          exact absurd h0 hf
        · exact CoEnd.same F1 N1 (fun _ h => h) ⟨rfl, ds, hds, hdk, by rw [forall_take_succ he, hdi]; simp [notP]⟩
    · refine' co_fin_assign (P := fun ys pool => pool = [] ∧ ∃ ds : List Dat, DatAll news ys ds ∧ (∀ d ∈ ds, kqdOk 8 d = true) ∧ (ds = [] ↔ ∀ e ∈ r.2.take us.length, notP (withinS sz) W e = true)) ?ka ?kb ?kc ?_; (case ka => rfl); (case kb => rfl); (case kc => rfl)
      intro D ys pool' h tk hP hcD hpl F1 N1
      obtain ⟨rfl, ds, hds, hdk, hdi⟩ := hP
      rw [hul, List.take_length] at hdi
      simp only [List.nil_append] at N1
      clear F2 N2
      have hlD : @LT.lt Nat _ lF D := hcD (lF, _) (.tail _ (.head _))
      dsimp only at F1 N1 ⊢
      k_steps
      · rename_i lE hE hlE hds0 T hT hlT hU FT NT
        have hall : r.2.all (notP (withinS sz) W) = true := by
          rw [List.all_eq_true]
          exact hdi.mp (by simpa using hds0)
        have hT1 : @LT.lt Nat _ lF T := hlT.2.2.2.1
        have hT2 : @LT.lt Nat _ I T := hlT.2.2.1
        have hT3 : ∀ q ∈ news, @LT.lt Nat _ q.1 T := fun q hq => allLt_mem hlT.2.2.2.2 q (List.mem_append.mpr (.inr (.tail _ (.tail _ (.tail _ hq)))))
        refine FoEnd.intro ⟨vs ++ [.ref T], n + 1, (T, tupObj [.int r.1 tp, .ref ta] 0) :: pool, (Str.ofString "within", .ref D) :: (Str.ofString "asked", .ref ta) :: (Str.ofString "place", .int r.1 tp) :: ex⟩ FT NT (by refine fr_ext [Str.ofString "within", Str.ofString "asked", Str.ofString "place", Str.ofString "found", Str.ofString "rows"] (by repeat (first | exact trivial | refine ⟨rfl, ?_⟩)) ?_; intro y hy; simp only [noneOf, and_true] at hy; simp only [fr, hy, if_false]) ?_ (by simp) ?_ ⟨?_, (fun p hp b hb => by
          rcases List.mem_cons.mp hp with rfl | hp
          · rw [List.mem_singleton.mp hb]; exact Nat.ne_of_gt hT1
          · exact hown p hp b hb), ?_⟩
        · intro p hp
          simp only [List.mem_cons, List.mem_append] at hp ⊢
          rcases hp with h | (h | h) | h | h | h | h <;> simp [h]
        · intro p hp
          simp only [List.mem_cons, List.mem_append] at hp
          rcases hp with h | (h | h) | h
          · exact .inl ⟨(lF, _), .head _, by rw [h]⟩
          · exact .inr (by rw [h]; exact hT2)
          · exact .inl ⟨p, .tail _ (List.mem_append.mpr (.inl h)), rfl⟩
          · exact .inl ⟨p, .tail _ (List.mem_append.mpr (.inr (by simpa using h))), rfl⟩
        · rw [notF_snoc hr, hall, if_pos rfl, List.map_append]
          exact all_snoc (hz.mono fun p hp => .tail _ hp) (DatIn.tuple (vs := [_, _]) (.head _) (.cons (.int _ _) (.cons (DatIn.tuple (vs := us) (.tail _ (List.mem_append.mpr (.inr hta))) (hua.mono fun p hp => .tail _ (List.mem_append.mpr (.inr hp)))) .nil)))
        · intro q hq p hp
          rcases List.mem_cons.mp hp with rfl | hp
          · exact hT3 q hq
          · exact hord q hq p hp
      · rename_i lE hE FE NE hlE hds0
        have hall : r.2.all (notP (withinS sz) W) = false := by
          rw [Bool.eq_false_iff]
          intro h
          rw [List.all_eq_true] at h
          have h0 : ¬ ds = [] := by simpa using hds0
          exact h0 (hdi.mpr h)
        refine FoEnd.intro ⟨vs, n, pool, (Str.ofString "within", .ref D) :: (Str.ofString "asked", .ref ta) :: (Str.ofString "place", .int r.1 tp) :: ex⟩ FE NE (by refine fr_ext [Str.ofString "within", Str.ofString "asked", Str.ofString "place", Str.ofString "found", Str.ofString "rows"] (by repeat (first | exact trivial | refine ⟨rfl, ?_⟩)) ?_; intro y hy; simp only [noneOf, and_true] at hy; simp only [fr, hy, if_false]) ?_ (by simp) (fun p hp => .inl ⟨p, hp, rfl⟩) ⟨?_, hown, hord⟩
        · exact fun p hp => .tail _ (.tail _ (.tail _ hp))
        · rw [notF_snoc hr, hall]
          simpa using hz
  · rintro ⟨vs, n, pool, ex⟩ h tk ⟨hz, hown, hord⟩ F1 N1
    clear F9 N9
    dsimp only at hz hown hord F1 N1 ⊢
    k_steps
    rename_i kF kN Tc kX
    have hlen : vrs.length = R.length := by rw [datAll_len har, List.length_map]
    rw [hlen, List.take_length] at hz
    refine hret _ (((lF, listOf vs.toArray n) :: pool) ++ news) _ _ kF (fun p hp => kN p ?_) ⟨_, rfl, ?_, DatIn.list (.head _) (hz.mono fun p hp => .tail _ hp)⟩
    · rcases List.mem_append.mp hp with hp | hp
      · rcases List.mem_cons.mp hp with hp | hp
        · rw [hp]; exact .head _
        · exact .tail _ (List.mem_append.mpr (.inl hp))
      · exact .tail _ (List.mem_append.mpr (.inr (.tail _ (.tail _ (.tail _ hp)))))
    · intro q hq p hp
      rcases List.mem_cons.mp hp with rfl | hp
      · exact allLt_mem hlF' q (.tail _ (.tail _ (.tail _ hq)))
      · exact hord q hq p hp
end
end
section
open PySem.Calls
section
set_option maxHeartbeats 0 in
theorem law_not_does (w : World) (news : Led) (vr vw : Value) (R : List Row) (W : Wish) (field sz : Int) (tf ts : Tok) (hp : okPair field sz) (hW : W.ok) (hR : rowsOk field R) (hDr : DatIn news vr (rowsD sz R)) (hDw : DatIn news vw (wishD sz W)) :
   Does w 4 200 230 news [vr, .int field tf, .int sz ts, vw] (fun r news' => ∃ tl, news' = tl ++ news ∧ (∀ q ∈ news, ∀ p ∈ tl, q.1 < p.1) ∧ DatIn (tl ++ news) r (rowsD sz (notF (inL sz) W R))) := by
  k_with_none
  k_with "k_ne" => (refine neN ?_; (try dsimp only); first | with_reducible assumption | exact Ne.symm (by with_reducible assumption) | (refine Nat.ne_of_gt ?_; k_extra "lt") | (refine Nat.ne_of_lt ?_; k_extra "lt") | omega)
  k_with "lt" => first | with_reducible assumption | exact And.left (by with_reducible assumption) | exact And.left (And.right (by with_reducible assumption)) | exact And.left (And.right (And.right (by with_reducible assumption))) | exact And.left (And.right (And.right (And.right (by with_reducible assumption)))) | exact And.left (And.right (And.right (And.right (And.right (by with_reducible assumption))))) | exact And.left (And.right (And.right (And.right (And.right (And.right (by with_reducible assumption)))))) | exact And.left (And.right (And.right (And.right (And.right (And.right (And.right (by with_reducible assumption)))))))
  k_with "exec For Name Call cons nil" => k_dflt (refine wpAny_For ?_ (by intro _; rfl))
  k_with "exec For Tuple Name cons nil" => k_dflt (refine wpAny_For ?_ (by intro _; rfl))
  k_with "pyIter ref" => refine Stop.go ?_
  k_with "FoPost" => (dsimp only [FoPost])
  k_with "eval ListComp" => k_dflt (refine co_eval (by with_unfolding_all rfl) (by rfl) (by decide) ?_)
  k_with "exec Assign cons ListComp" => k_dflt (refine co_assign (by with_unfolding_all rfl) (by with_unfolding_all rfl) (by rfl) (by decide) ?_)
  k_with "call ref" => (k_here; (with_reducible show wpAny _ _ (call (Value.ref 215) _ _) _ _ _); (refine' Does.use (law_lets_does _ _ _ _ _ _ (okPair.size (by assumption)) ?zuw9 ?zua9) ?zuB9 ?zuF9 ?zuX9 ?zuN9 ?zuT9 ?zuK9 ?zuD9 ?zuU9 ?_); (case zuB9 => first | k_asm | ktn_no "use: the frames below"); (case zuF9 => first | k_asm | ktn_no "use: the frame"); (case zuX9 => first | k_asm | ktn_no "use: the written part"); (case zuN9 => first | k_asm | ktn_no "use: the ledger"); (case zuT9 => first | k_asm | ktn_no "use: the top"); (case zuK9 => first | exact rfl | assumption | ktn_no "use: the caller"); (case zuD9 => first | ktr_room | ktn_no "use: room"); (case zuU9 => first | ktr_units | ktn_no "use: units"); (case zua9 => (first | assumption | (refine' DatIn.mono ?zum9 ?zud9; (case zud9 => assumption); (case zum9 => (intro p9 h9; simp [h9]))))); (case zuw9 => assumption); intro _ _ _ _ _ _ hp9; obtain ⟨_, e9, _, _⟩ := hp9; subst e9; (try dsimp only); refine Stop.go ?_)
  k_with "call ref" => (k_here; (with_reducible show wpAny _ _ (call (Value.ref 220) _ _) _ _ _); (refine' Does.use (law_within_does _ _ _ _ _ _ ?zu89 ?zua9 ?zub9) ?zuB9 ?zuF9 ?zuX9 ?zuN9 ?zuT9 ?zuK9 ?zuD9 ?zuU9 ?_); (case zuB9 => first | k_asm | ktn_no "use: the frames below"); (case zuF9 => first | k_asm | ktn_no "use: the frame"); (case zuX9 => first | k_asm | ktn_no "use: the written part"); (case zuN9 => first | k_asm | ktn_no "use: the ledger"); (case zuT9 => first | k_asm | ktn_no "use: the top"); (case zuK9 => first | exact rfl | assumption | ktn_no "use: the caller"); (case zuD9 => first | ktr_room | ktn_no "use: room"); (case zuU9 => first | ktr_units | ktn_no "use: units"); (case zua9 => (first | assumption | (refine' DatIn.mono ?zum9 ?zud9; (case zud9 => assumption); (case zum9 => (intro p9 h9; simp [h9]))))); (case zub9 => (first | assumption | (refine' DatIn.mono ?zum9 ?zud9; (case zud9 => assumption); (case zum9 => (intro p9 h9; simp [h9]))))); (case zu89 => assumption); intro _ _ _ _ _ _ hp9; obtain ⟨e9, er9⟩ := hp9; subst e9; subst er9; (try dsimp only))
  k_with "compareOp Eq" => (k_here; (with_reducible show wpAny _ _ (compareOp CmpOp.Eq (Value.ref _) (Value.ref _)) _ _ _); k_dflt (refine' kqd_eq ?zN9 ?za9 ?zb9 ?zc9 ?zd9 ?ze9 ?zap9 ?zbp9 ?zcp9 (n₂ := []) (es := []) ?zdp9 (fun _ h => nomatch h) ?zl9 ?zlp9 ?zn9 ?_; (case zN9 => k_asm); (case za9 => k_mem); (case zb9 => rfl); (case zc9 => rfl); (case zd9 => with_reducible assumption); (case ze9 => (intro p9 h9; (first | (exact absurd h9 List.not_mem_nil) | simp [h9]))); (case zap9 => k_mem); (case zbp9 => rfl); (case zcp9 => rfl); (case zdp9 => exact DatAll.nil); (case zl9 => (first | assumption | exact okE _)); (case zlp9 => exact fun _ h => nomatch h); (case zn9 => ktr_units); k_whole))
  obtain ⟨lr, vrs, nr, rfl, hmr, har⟩ := list_inv hDr
  unfold Does
  k_fill
  intro mean mg mb dp un gd cn cs fa ccd cl outer A₀ base h₀ L m s Q E B F X N T hk hd hu hret
  refine wpAny_call ?_
  k_dflt (refine' code_defC ?k1 ?k2 ?k3 ?k4 ?k5 ?kA ?kF ?kK ?k6 ?k7 ?k8 ?k9 ?kB ?kD ?_ ?c2 ?c3 ?c4; (case kA => exact rfl); (case kF => exact rfl); (case kK => assumption); (case k1 => k_asm); (case k2 => k_asm); (case k3 => k_asm); (case k4 => k_asm); (case k5 => k_asm); (case k6 => k_is); (case k7 => k_is); (case k8 => ktr_room); (case k9 => exact BindsTo.of_eq rfl); (case kB => exact rfl); (case kD => decide +kernel); (case c2 => exact rfl); (case c3 => exact rfl); (case c4 => exact rfl); k_whole; intro g' L' h' tk' cells' FG' F' N' Y' B' X' T' l1; (try k_lt l1); k_cells Y'; (try simp only [List.cons_append, List.nil_append] at N'); (try dsimp only); (try k_fold))
  rename_i o1 o2 o3 d1 d2 d3
  replace F' : Fr g' L' h' (fr [(Str.ofString "wish", vw), (Str.ofString "rows", .ref lr)]) := by with_unfolding_all exact F'
  replace d3 : o3.data = .cell (some (.int field tf)) := by with_unfolding_all exact d3
  replace d2 : o2.data = .cell (some (.int sz ts)) := by with_unfolding_all exact d2
  replace d1 : o1.data = .cell none := by with_unfolding_all exact d1
  have hof3 := own_cell3 l1
  k_steps
  rename_i lF hF FF NF hlF rL hL tL FL tl ltl hdl NL
  clear FF NF
  unfold Stop
  replace NL := news_mv4 NL
  have hofT := own_app (c := L' + 1 + 1 + 1) hof3 ltl (.tail _ (.head _))
  k_steps
  rename_i T0 hT0 hlT0 h6 h7 h8 oB F9 N9 d9
  clear d1 hofT hof3
  have hFT : OwnOff (tl ++ news) [lF] := own_app (own_lt (fun p hp => allLt_mem hlF.2.2.2 p hp)) ltl (.head _)
  have hFC : OwnOff ((L' + 1 + 1 + 1, oB) :: (L' + 1 + 1, o2) :: (L' + 1, o3) :: (tl ++ news)) [lF] := own_cons (own_cons (own_cons hFT (Nat.ne_of_lt hlF.2.2.1)) (Nat.ne_of_lt hlF.2.1)) (Nat.ne_of_lt hlF.1)
  have hTn : ∀ q ∈ news, ∀ p ∈ tl, q.1 < p.1 := fun q hq p hp => ltl q (.tail _ (.tail _ (.tail _ (.tail _ hq)))) p hp
  unfold Stop
  with_unfolding_all refine my_for_seq (σ := RwSt) (.inl rfl) rfl (fun c => (lF, listOf c.vs.toArray c.n) :: (c.pool ++ ((L' + 1 + 1 + 1, oB) :: (L' + 1 + 1, o2) :: (L' + 1, o3) :: (tl ++ news)))) (fun c => (Str.ofString "found", .ref lF) :: (Str.ofString "wish", vw) :: (Str.ofString "rows", .ref lr) :: c.ex) (fun i c => DatAll (c.pool ++ news) c.vs ((notF (inL sz) W (R.take i)).map (rowD sz)) ∧ OwnOff (c.pool ++ ((L' + 1 + 1 + 1, oB) :: (L' + 1 + 1, o2) :: (L' + 1, o3) :: (tl ++ news))) [lF] ∧ (∀ q ∈ news, ∀ p ∈ c.pool, q.1 < p.1)) ⟨[], 0, [], []⟩ (by rfl) F9 N9 rfl (fun _ h => .tail _ h) (fun _ _ _ => .tail _ (List.mem_append.mpr (.inr (.tail _ (.tail _ (.tail _ (List.mem_append.mpr (.inr hmr)))))))) ⟨.nil, hFC, fun _ _ _ h => absurd h List.not_mem_nil⟩ ?_ ?_
  · rintro i ⟨vs, n, pool, ex⟩ v I oI h tk hv ⟨hz, hown, hord⟩ hoff F1 N1
    obtain ⟨r, hr, hrD⟩ := all_get har hv
    obtain ⟨t, nt, tp, ta, us, kt, rfl, ht, hta, hua⟩ := row_inv hrD
    have hIF : @Ne Nat lF I := hoff (lF, _) (.head _)
    clear F9 N9
    dsimp only at hz hown hord hoff F1 N1 ⊢
    k_steps
    rename_i h7 F0 N0 h8 h9 F2 N2
    clear F0 N0
    have hul : us.length = r.2.length := by rw [datAll_len hua, List.length_map]
    have hr3 : rowOk field r := hR.1 r (List.mem_of_getElem? hr)
    have hvl : vs.length ≤ 4 := by
      rw [datAll_len hz, List.length_map]
      exact Nat.le_trans (List.length_filter_le _ _) (Nat.le_trans (List.length_take_le' _ _) hR.2)
    unfold Stop CoGo
    refine co_seq (.inr rfl) rfl (by show us.length ≤ sizeLine; rw [hul]; exact Nat.le_trans hr3.2 (by decide)) (by decide) (by rfl) (by rfl) (BPair _ (Str.ofString "told") (Str.ofString "one")) (fun j ys pl => DatAll pl ys ((ownsOf sz (r.2.take j)).map eD)) _ (.tail _ (.tail _ (List.mem_append.mpr (.inr (.tail _ (.tail _ (.tail _ (List.mem_append.mpr (.inr hta)))))))))  F2 N2 .nil (co_pair (by rfl) (by rfl) (by rfl) (by decide) (by rfl) ?_) ?_ ?_
    · intro j v hv
      obtain ⟨e, he, heD⟩ := all_get hua hv
      obtain ⟨t', n', tf', v2, rfl, hm', _⟩ := ent_inv heD
      exact ⟨_, _, _, _, rfl, .tail _ (.tail _ (List.mem_append.mpr (.inr (.tail _ (.tail _ (.tail _ (List.mem_append.mpr (.inr hm'))))))))⟩
    · intro j v ys pl J oJ D C oC mC h tk E' hv hP hn hB lJD lDC hJ hpo F1 N1
      obtain ⟨e, he, heD⟩ := all_get hua hv
      obtain ⟨t', n', tf', v2, rfl, hm', hD2⟩ := ent_inv heD
      obtain ⟨t'', w1, w2, n'', e1, hm'', hB1, hB2⟩ := hB
      cases e1
      have hin : (t', tupObj [.int e.1 tf', v2] n') ∈ (I, oI) :: (lF, listOf vs.toArray n) :: (pool ++ (L' + 1 + 1 + 1, oB) :: (L' + 1 + 1, o2) :: (L' + 1, o3) :: (tl ++ news)) := .tail _ (.tail _ (List.mem_append.mpr (.inr (.tail _ (.tail _ (.tail _ (List.mem_append.mpr (.inr hm'))))))))
      obtain ⟨rfl, rfl⟩ := pair_same N2 hm'' hin
      have heo : ownOk field e := hr3.1 e (List.mem_of_getElem? he)
      clear F2 N2 hin
      dsimp only at F1 N1 ⊢
      obtain ⟨f, o⟩ := e
      cases o with
      | own V =>
        obtain ⟨hf, hV⟩ := heo
        dsimp only at hf
        subst hf
        dsimp only [ownD] at hD2 hB1 hm''
        k_steps
        · rename_i h0 r10 h10 t10 F10 tl10 lt10 hd10 N10
          show Stop _
          refine CoEnd.intro (tl10 ++ pl) F10 N10 mem_mv3 ?_ ?_
          · intro p hp
            rcases List.mem_append.mp hp with hp | hp
            · refine .inr fun q hq => lt10 q ?_ p hp
              simp only [List.mem_cons, List.not_mem_nil, or_false] at hq
              rcases hq with h | h | h <;> simp [h]
            · exact .inl ⟨p, hp, rfl⟩
          · rw [ownsOf_snoc he, List.map_append]
            exact all_snoc (hP.mono fun p hp => List.mem_append.mpr (.inr hp)) (hd10.mono fun p hp => List.mem_append.mpr (.inl hp))
        · rename_i h0
          exact absurd rfl h0
      | oth d =>
        obtain ⟨hf, _⟩ := heo
        dsimp only at hf hB1 hm''
        k_steps
        · rename_i h0 c0
          exact absurd h0 hf
        · exact CoEnd.same F1 N1 (fun _ h => h) (by rw [ownsOf_snoc he]; simpa using hP)
    · refine' co_fin_assign (P := fun ys pl => DatAll pl ys ((ownsOf sz (r.2.take us.length)).map eD)) ?ka ?kb ?kc ?_; (case ka => rfl); (case kb => rfl); (case kc => rfl)
      intro D ys pl h tk hP hcD hpl F1 N1
      rw [hul, List.take_length] at hP
      clear F2 N2
      replace N1 := news_mv2 N1
      have hlD : @LT.lt Nat _ lF D := hcD (lF, _) (.tail _ (.head _))
      have hown2 := own_gt (c := lF) hown (fun p hp => Nat.lt_trans hlD (hpl p hp))
      dsimp only at F1 N1 ⊢
      k_steps
      have hyl : ys.length ≤ 3 := by
        rw [datAll_len hP, List.length_map]
        exact Nat.le_trans (List.length_filterMap_le _ _) hr3.2
      unfold Stop CoGo
      refine co_seq (.inl rfl) rfl (by show ys.length ≤ sizeLine; exact Nat.le_trans hyl (by decide)) (by decide) (by rfl) (by rfl) (BName (Str.ofString "some")) (fun j zs p2 => p2 = [] ∧ ∃ ls : List (List Int), DatAll pl zs (ls.map eD) ∧ (ls = [] ↔ ∀ a ∈ (ownsOf sz r.2).take j, ¬ (a.all fun b => decide (b ∈ letsS sz W)) = true)) _ (.head _) F1 N1 ⟨rfl, [], .nil, by simp⟩ (co_name (by rfl) (by rfl)) ?_ ?_
      · intro j v zs p2 J oJ D2 C oC mC h tk E' hv hP2 hn hB lJD lDC hJ hpo F3 N3
        obtain ⟨rfl, ls, hls, hlj⟩ := hP2
        obtain ⟨a, ha, haD⟩ := all_get hP hv
        have hal : a.length ≤ 8 := by
          obtain ⟨e, he, hE⟩ := List.mem_filterMap.mp (List.mem_of_getElem? ha)
          cases hV : e.2 with
          | own V => rw [hV] at hE; cases hE; exact letsS_len _ _
          | oth d => rw [hV] at hE; cases hE
        unfold BName at hB
        clear F1 N1
        simp only [List.nil_append] at N3
        dsimp only at F3 N3 ⊢
        k_steps
        · rename_i c0 h10 t10 F10 N10 ht
          exact CoEnd.same F10 N10 (fun _ h => h) ⟨rfl, ls ++ [a], by rw [List.map_append]; exact all_snoc hls haD, by rw [forall_take_succ ha]; simp [ht]⟩
        · rename_i c0 h10 t10 F10 N10 ht
          exact CoEnd.same F10 N10 (fun _ h => h) ⟨rfl, ls, hls, by rw [forall_take_succ ha, hlj]; simp [ht]⟩
      · refine co_fin_eval (P := fun zs p2 => p2 = [] ∧ ∃ ls : List (List Int), DatAll pl zs (ls.map eD) ∧ (ls = [] ↔ ∀ a ∈ (ownsOf sz r.2).take ys.length, ¬ (a.all fun b => decide (b ∈ letsS sz W)) = true)) ?_
        intro D2 zs p2 h tk hP2 hcD2 hpl2 F3 N3
        obtain ⟨rfl, ls, hls, hlj⟩ := hP2
        rw [datAll_len hP, List.length_map, List.take_length, ownsOf_all] at hlj
        have hlk := okLL ls
        simp only [List.nil_append] at N3
        have hlD2 : @LT.lt Nat _ lF D2 := hcD2 (lF, _) (.tail _ (.tail _ (.head _)))
        clear F1 N1
        dsimp only at F3 N3 ⊢
        k_steps
        · rename_i lE hE hlE hds0 T hT hlT hU FT NT
          have hall : r.2.all (notP (inL sz) W) = true := by
            rw [List.all_eq_true]
            exact fun e he => notP_iff.mpr (hlj.mp (by simpa using hds0) e he)
          have hT1 : @LT.lt Nat _ lF T := hlT.2.2.2.2.1
          have hT2 : @LT.lt Nat _ I T := hlT.2.2.2.1
          have hT3 : ∀ q ∈ news, @LT.lt Nat _ q.1 T := fun q hq => allLt_mem hlT.2.2.2.2.2 q (List.mem_append.mpr (.inr (List.mem_append.mpr (.inr (.tail _ (.tail _ (.tail _ (List.mem_append.mpr (.inr hq)))))))))
          refine FoEnd.intro ⟨vs ++ [.ref T], n + 1, (T, tupObj [.int r.1 tp, .ref ta] 0) :: pool, (Str.ofString "own", .ref D) :: (Str.ofString "asked", .ref ta) :: (Str.ofString "place", .int r.1 tp) :: ex⟩ FT NT (by refine fr_ext [Str.ofString "own", Str.ofString "asked", Str.ofString "place", Str.ofString "found", Str.ofString "wish", Str.ofString "rows"] (by repeat (first | exact trivial | refine ⟨rfl, ?_⟩)) ?_; intro y hy; simp only [noneOf, and_true] at hy; simp only [fr, hy, if_false]) ?_ (by simp) ?_ ⟨?_, own_cons hown (Nat.ne_of_gt hT1), ?_⟩
          · intro p hp
            simp only [List.mem_cons, List.mem_append] at hp ⊢
            rcases hp with h | (h | h) | h | h | h | h | h <;> simp [h]
          · intro p hp
            simp only [List.mem_cons, List.mem_append] at hp
            rcases hp with h | (h | h) | h
            · exact .inl ⟨(lF, _), .head _, by rw [h]⟩
            · exact .inr (by rw [h]; exact hT2)
            · exact .inl ⟨p, .tail _ (List.mem_append.mpr (.inl h)), rfl⟩
            · exact .inl ⟨p, .tail _ (List.mem_append.mpr (.inr (by simpa using h))), rfl⟩
          · rw [notF_snoc hr, hall, if_pos rfl, List.map_append]
            exact all_snoc (hz.mono fun p hp => .tail _ hp) (DatIn.tuple (vs := [_, _]) (.head _) (.cons (.int _ _) (.cons (DatIn.tuple (vs := us) (.tail _ (List.mem_append.mpr (.inr hta))) (hua.mono fun p hp => .tail _ (List.mem_append.mpr (.inr hp)))) .nil)))
          · intro q hq p hp
            rcases List.mem_cons.mp hp with rfl | hp
            · exact hT3 q hq
            · exact hord q hq p hp
        · rename_i lE hE FE NE hlE hds0
          have hall : r.2.all (notP (inL sz) W) = false := by
            rw [Bool.eq_false_iff]
            intro h
            rw [List.all_eq_true] at h
            have h0 : ¬ ls = [] := by simpa using hds0
            exact h0 (hlj.mpr fun e he => notP_iff.mp (h e he))
          refine FoEnd.intro ⟨vs, n, pool, (Str.ofString "own", .ref D) :: (Str.ofString "asked", .ref ta) :: (Str.ofString "place", .int r.1 tp) :: ex⟩ FE NE (by refine fr_ext [Str.ofString "own", Str.ofString "asked", Str.ofString "place", Str.ofString "found", Str.ofString "wish", Str.ofString "rows"] (by repeat (first | exact trivial | refine ⟨rfl, ?_⟩)) ?_; intro y hy; simp only [noneOf, and_true] at hy; simp only [fr, hy, if_false]) ?_ (by simp) (fun p hp => .inl ⟨p, hp, rfl⟩) ⟨?_, hown, hord⟩
          · intro p hp
            simp only [List.mem_cons, List.mem_append] at hp ⊢
            rcases hp with h | h | h | h | h | h | h <;> simp [h]
          · rw [notF_snoc hr, hall]
            simpa using hz
  · rintro ⟨vs, n, pool, ex⟩ h tk ⟨hz, hown, hord⟩ F1 N1
    clear F9 N9
    dsimp only at hz hown hord F1 N1 ⊢
    k_steps
    rename_i kF kN Tc kX
    have hlen : vrs.length = R.length := by rw [datAll_len har, List.length_map]
    rw [hlen, List.take_length] at hz
    refine hret _ (((lF, listOf vs.toArray n) :: (pool ++ tl)) ++ news) _ _ kF (fun p hp => kN p ?_) ⟨_, rfl, ?_, DatIn.list (.head _) (hz.mono fun p hp => .tail _ ?_)⟩
    · simp only [List.cons_append, List.mem_cons, List.mem_append] at hp ⊢
      rcases hp with h | (h | h) | h <;> simp [h]
    · intro q hq p hp
      rcases List.mem_cons.mp hp with rfl | hp
      · exact allLt_mem hlF.2.2.2 q hq
      · rcases List.mem_append.mp hp with hp | hp
        · exact hord q hq p hp
        · exact hTn q hq p hp
    · exact (List.mem_append.mp hp).elim (fun h => List.mem_append.mpr (.inl (List.mem_append.mpr (.inl h)))) fun h => List.mem_append.mpr (.inr h)
end
end
section
open PySem.Calls
section
set_option maxHeartbeats 0 in
theorem law_so_does (w : World) (news : Led) (vr vw : Value) (R : List Row) (W : Wish) (field sz : Int) (tf ts : Tok) (hp : okPair field sz) (hW : W.ok) (hR : rowsOk field R) (hDr : DatIn news vr (rowsD sz R)) (hDw : DatIn news vw (wishD sz W)) :
   Does w 4 200 225 news [vr, .int field tf, .int sz ts, vw] (fun r news' => ∃ tl, news' = tl ++ news ∧ (∀ q ∈ news, ∀ p ∈ tl, q.1 < p.1) ∧ DatIn (tl ++ news) r (rowsD sz (soF (meetL sz) (inL sz) W R))) := by
  k_with_none
  k_with "k_ne" => (refine neN ?_; (try dsimp only); first | with_reducible assumption | exact Ne.symm (by with_reducible assumption) | (refine Nat.ne_of_gt ?_; k_extra "lt") | (refine Nat.ne_of_lt ?_; k_extra "lt") | omega)
  k_with "lt" => first | with_reducible assumption | exact And.left (by with_reducible assumption) | exact And.left (And.right (by with_reducible assumption)) | exact And.left (And.right (And.right (by with_reducible assumption))) | exact And.left (And.right (And.right (And.right (by with_reducible assumption)))) | exact And.left (And.right (And.right (And.right (And.right (by with_reducible assumption))))) | exact And.left (And.right (And.right (And.right (And.right (And.right (by with_reducible assumption)))))) | exact And.left (And.right (And.right (And.right (And.right (And.right (And.right (by with_reducible assumption)))))))
  k_with "exec For Name Call cons nil" => k_dflt (refine wpAny_For ?_ (by intro _; rfl))
  k_with "exec For Tuple Name cons nil" => k_dflt (refine wpAny_For ?_ (by intro _; rfl))
  k_with "pyIter ref" => refine Stop.go ?_
  k_with "FoPost" => (dsimp only [FoPost])
  k_with "eval ListComp" => k_dflt (refine co_eval (by with_unfolding_all rfl) (by rfl) (by decide) ?_)
  k_with "exec Assign cons ListComp" => k_dflt (refine co_assign (by with_unfolding_all rfl) (by with_unfolding_all rfl) (by rfl) (by decide) ?_)
  k_with "call ref" => (k_here; (with_reducible show wpAny _ _ (call (Value.ref 215) _ _) _ _ _); (refine' Does.use (law_lets_does _ _ _ _ _ _ (okPair.size (by assumption)) ?zuw9 ?zua9) ?zuB9 ?zuF9 ?zuX9 ?zuN9 ?zuT9 ?zuK9 ?zuD9 ?zuU9 ?_); (case zuB9 => first | k_asm | ktn_no "use: the frames below"); (case zuF9 => first | k_asm | ktn_no "use: the frame"); (case zuX9 => first | k_asm | ktn_no "use: the written part"); (case zuN9 => first | k_asm | ktn_no "use: the ledger"); (case zuT9 => first | k_asm | ktn_no "use: the top"); (case zuK9 => first | exact rfl | assumption | ktn_no "use: the caller"); (case zuD9 => first | ktr_room | ktn_no "use: room"); (case zuU9 => first | ktr_units | ktn_no "use: units"); (case zua9 => (first | assumption | (refine' DatIn.mono ?zum9 ?zud9; (case zud9 => assumption); (case zum9 => (intro p9 h9; simp [h9]))))); (case zuw9 => assumption); intro _ _ _ _ _ _ hp9; obtain ⟨_, e9, _, _⟩ := hp9; subst e9; (try dsimp only); refine Stop.go ?_)
  k_with "call ref" => (k_here; (with_reducible show wpAny _ _ (call (Value.ref 220) _ _) _ _ _); (refine' Does.use (law_within_does _ _ _ _ _ _ ?zu89 ?zua9 ?zub9) ?zuB9 ?zuF9 ?zuX9 ?zuN9 ?zuT9 ?zuK9 ?zuD9 ?zuU9 ?_); (case zuB9 => first | k_asm | ktn_no "use: the frames below"); (case zuF9 => first | k_asm | ktn_no "use: the frame"); (case zuX9 => first | k_asm | ktn_no "use: the written part"); (case zuN9 => first | k_asm | ktn_no "use: the ledger"); (case zuT9 => first | k_asm | ktn_no "use: the top"); (case zuK9 => first | exact rfl | assumption | ktn_no "use: the caller"); (case zuD9 => first | ktr_room | ktn_no "use: room"); (case zuU9 => first | ktr_units | ktn_no "use: units"); (case zua9 => (first | assumption | (refine' DatIn.mono ?zum9 ?zud9; (case zud9 => assumption); (case zum9 => (intro p9 h9; simp [h9]))))); (case zub9 => (first | assumption | (refine' DatIn.mono ?zum9 ?zud9; (case zud9 => assumption); (case zum9 => (intro p9 h9; simp [h9]))))); (case zu89 => assumption); intro _ _ _ _ _ _ hp9; obtain ⟨e9, er9⟩ := hp9; subst e9; subst er9; (try dsimp only))
  k_with "compareOp Eq" => (k_here; (with_reducible show wpAny _ _ (compareOp CmpOp.Eq (Value.ref _) (Value.ref _)) _ _ _); k_dflt (refine' kqd_eq ?zN9 ?za9 ?zb9 ?zc9 ?zd9 ?ze9 ?zap9 ?zbp9 ?zcp9 (n₂ := []) (es := []) ?zdp9 (fun _ h => nomatch h) ?zl9 ?zlp9 ?zn9 ?_; (case zN9 => k_asm); (case za9 => k_mem); (case zb9 => rfl); (case zc9 => rfl); (case zd9 => with_reducible assumption); (case ze9 => (intro p9 h9; (first | (exact absurd h9 List.not_mem_nil) | simp [h9]))); (case zap9 => k_mem); (case zbp9 => rfl); (case zcp9 => rfl); (case zdp9 => exact DatAll.nil); (case zl9 => (first | assumption | exact okE _)); (case zlp9 => exact fun _ h => nomatch h); (case zn9 => ktr_units); k_whole))
  k_with "compareOp In" => (k_here; (with_reducible show wpAny _ _ (compareOp CmpOp.In _ (Value.ref _)) _ _ _); k_dflt (refine' kqd_isIn ?zN9 ?za9 ?zb9 ?zc9 ?zd9 ?ze9 ?zx9 (fun _ h => h) ?zl9 ?zm9 ?zn9 ?_; (case zN9 => k_asm); (case za9 => k_mem); (case zb9 => rfl); (case zc9 => rfl); (case zd9 => with_reducible assumption); (case ze9 => (intro p9 h9; simp [h9])); (case zx9 => exact DatIn.int _ _); (case zl9 => exact okE _); (case zm9 => rfl); (case zn9 => ktr_units); k_whole))
  k_with "call type:tuple" => (k_here; (with_reducible show wpAny _ _ (call (Value.type _) [Value.ref _]) _ _ _); k_dflt (refine' my_tupleOf ?zk19 ?zk29 ?zk39 ?zk49 ?_; (case zk19 => k_asm); (case zk29 => k_asm); (case zk39 => k_mem); (case zk49 => first | assumption | omega); k_whole); intro _ _ _ _ l1; (try k_lt l1); revert l1; intro _; (try k_sweep))
  obtain ⟨lr, vrs, nr, rfl, hmr, har⟩ := list_inv hDr
  unfold Does
  k_fill
  intro mean mg mb dp un gd cn cs fa ccd cl outer A₀ base h₀ L m s Q E B F X N T hk hd hu hret
  refine wpAny_call ?_
  k_dflt (refine' code_defC ?k1 ?k2 ?k3 ?k4 ?k5 ?kA ?kF ?kK ?k6 ?k7 ?k8 ?k9 ?kB ?kD ?_ ?c2 ?c3 ?c4; (case kA => exact rfl); (case kF => exact rfl); (case kK => assumption); (case k1 => k_asm); (case k2 => k_asm); (case k3 => k_asm); (case k4 => k_asm); (case k5 => k_asm); (case k6 => k_is); (case k7 => k_is); (case k8 => ktr_room); (case k9 => exact BindsTo.of_eq rfl); (case kB => exact rfl); (case kD => decide +kernel); (case c2 => exact rfl); (case c3 => exact rfl); (case c4 => exact rfl); k_whole; intro g' L' h' tk' cells' FG' F' N' Y' B' X' T' l1; (try k_lt l1); k_cells Y'; (try simp only [List.cons_append, List.nil_append] at N'); (try dsimp only); (try k_fold))
  rename_i o1 o2 o3 d1 d2 d3
  replace F' : Fr g' L' h' (fr [(Str.ofString "wish", vw), (Str.ofString "rows", .ref lr)]) := by with_unfolding_all exact F'
  replace d3 : o3.data = .cell (some (.int field tf)) := by with_unfolding_all exact d3
  replace d2 : o2.data = .cell (some (.int sz ts)) := by with_unfolding_all exact d2
  replace d1 : o1.data = .cell none := by with_unfolding_all exact d1
  have hof3 := own_cell3 l1
  k_steps
  rename_i lF hF FF NF hlF rL hL tL FL tl ltl hdl NL
  clear FF NF
  unfold Stop
  replace NL := news_mv4 NL
  have hofT := own_app (c := L' + 1 + 1 + 1) hof3 ltl (.tail _ (.head _))
  k_steps
  rename_i T0 hT0 hlT0 h6 h7 h8 oB F9 N9 d9
  clear d1 hofT hof3
  have hFT : OwnOff (tl ++ news) [lF] := own_app (own_lt (fun p hp => allLt_mem hlF.2.2.2 p hp)) ltl (.head _)
  have hFC : OwnOff ((L' + 1 + 1 + 1, oB) :: (L' + 1 + 1, o2) :: (L' + 1, o3) :: (tl ++ news)) [lF] := own_cons (own_cons (own_cons hFT (Nat.ne_of_lt hlF.2.2.1)) (Nat.ne_of_lt hlF.2.1)) (Nat.ne_of_lt hlF.1)
  have hTn : ∀ q ∈ news, ∀ p ∈ tl, q.1 < p.1 := fun q hq p hp => ltl q (.tail _ (.tail _ (.tail _ (.tail _ hq)))) p hp
  unfold Stop
  with_unfolding_all refine my_for_seq (σ := RwSt) (.inl rfl) rfl (fun c => (lF, listOf c.vs.toArray c.n) :: (c.pool ++ ((L' + 1 + 1 + 1, oB) :: (L' + 1 + 1, o2) :: (L' + 1, o3) :: (tl ++ news)))) (fun c => (Str.ofString "found", .ref lF) :: (Str.ofString "wish", vw) :: (Str.ofString "rows", .ref lr) :: c.ex) (fun i c => DatAll (c.pool ++ news) c.vs ((soF (meetL sz) (inL sz) W (R.take i)).map (rowD sz)) ∧ OwnOff (c.pool ++ ((L' + 1 + 1 + 1, oB) :: (L' + 1 + 1, o2) :: (L' + 1, o3) :: (tl ++ news))) [lF] ∧ (∀ q ∈ news, ∀ p ∈ c.pool, q.1 < p.1)) ⟨[], 0, [], []⟩ (by rfl) F9 N9 rfl (fun _ h => .tail _ h) (fun _ _ _ => .tail _ (List.mem_append.mpr (.inr (.tail _ (.tail _ (.tail _ (List.mem_append.mpr (.inr hmr)))))))) ⟨.nil, hFC, fun _ _ _ h => absurd h List.not_mem_nil⟩ ?_ ?_
  · rintro i ⟨vs, n, pool, ex⟩ v I oI h tk hv ⟨hz, hown, hord⟩ hoff F1 N1
    obtain ⟨r, hr, hrD⟩ := all_get har hv
    obtain ⟨t, nt, tp, ta, us, kt, rfl, ht, hta, hua⟩ := row_inv hrD
    have hIF : @Ne Nat lF I := hoff (lF, _) (.head _)
    clear F9 N9
    dsimp only at hz hown hord hoff F1 N1 ⊢
    k_steps
    rename_i h7 F0 N0 h8 h9 F2 N2
    clear F0 N0
    have hul : us.length = r.2.length := by rw [datAll_len hua, List.length_map]
    have hr3 : rowOk field r := hR.1 r (List.mem_of_getElem? hr)
    have hvl : vs.length ≤ 4 := by
      rw [datAll_len hz, List.length_map]
      rw [soF, List.length_map]; exact Nat.le_trans (List.length_filter_le _ _) (Nat.le_trans (List.length_take_le' _ _) hR.2)
    unfold Stop CoGo
    refine co_seq (.inr rfl) rfl (by show us.length ≤ sizeLine; rw [hul]; exact Nat.le_trans hr3.2 (by decide)) (by decide) (by rfl) (by rfl) (BPair _ (Str.ofString "told") (Str.ofString "one")) (fun j ys pl => DatAll pl ys ((ownsOf sz (r.2.take j)).map eD)) _ (.tail _ (.tail _ (List.mem_append.mpr (.inr (.tail _ (.tail _ (.tail _ (List.mem_append.mpr (.inr hta)))))))))  F2 N2 .nil (co_pair (by rfl) (by rfl) (by rfl) (by decide) (by rfl) ?_) ?_ ?_
    · intro j v hv
      obtain ⟨e, he, heD⟩ := all_get hua hv
      obtain ⟨t', n', tf', v2, rfl, hm', _⟩ := ent_inv heD
      exact ⟨_, _, _, _, rfl, .tail _ (.tail _ (List.mem_append.mpr (.inr (.tail _ (.tail _ (.tail _ (List.mem_append.mpr (.inr hm'))))))))⟩
    · intro j v ys pl J oJ D C oC mC h tk E' hv hP hn hB lJD lDC hJ hpo F1 N1
      obtain ⟨e, he, heD⟩ := all_get hua hv
      obtain ⟨t', n', tf', v2, rfl, hm', hD2⟩ := ent_inv heD
      obtain ⟨t'', w1, w2, n'', e1, hm'', hB1, hB2⟩ := hB
      cases e1
      have hin : (t', tupObj [.int e.1 tf', v2] n') ∈ (I, oI) :: (lF, listOf vs.toArray n) :: (pool ++ (L' + 1 + 1 + 1, oB) :: (L' + 1 + 1, o2) :: (L' + 1, o3) :: (tl ++ news)) := .tail _ (.tail _ (List.mem_append.mpr (.inr (.tail _ (.tail _ (.tail _ (List.mem_append.mpr (.inr hm'))))))))
      obtain ⟨rfl, rfl⟩ := pair_same N2 hm'' hin
      have heo : ownOk field e := hr3.1 e (List.mem_of_getElem? he)
      clear F2 N2 hin
      dsimp only at F1 N1 ⊢
      obtain ⟨f, o⟩ := e
      cases o with
      | own V =>
        obtain ⟨hf, hV⟩ := heo
        dsimp only at hf
        subst hf
        dsimp only [ownD] at hD2 hB1 hm''
        k_steps
        · rename_i h0 r10 h10 t10 F10 tl10 lt10 hd10 N10
          show Stop _
          refine CoEnd.intro (tl10 ++ pl) F10 N10 mem_mv3 ?_ ?_
          · intro p hp
            rcases List.mem_append.mp hp with hp | hp
            · refine .inr fun q hq => lt10 q ?_ p hp
              simp only [List.mem_cons, List.not_mem_nil, or_false] at hq
              rcases hq with h | h | h <;> simp [h]
            · exact .inl ⟨p, hp, rfl⟩
          · rw [ownsOf_snoc he, List.map_append]
            exact all_snoc (hP.mono fun p hp => List.mem_append.mpr (.inr hp)) (hd10.mono fun p hp => List.mem_append.mpr (.inl hp))
        · rename_i h0
          exact absurd rfl h0
      | oth d =>
        obtain ⟨hf, _⟩ := heo
        dsimp only at hf hB1 hm''
        k_steps
        · rename_i h0 c0
          exact absurd h0 hf
        · exact CoEnd.same F1 N1 (fun _ h => h) (by rw [ownsOf_snoc he]; simpa using hP)
    · refine' co_fin_assign (P := fun ys pl => DatAll pl ys ((ownsOf sz (r.2.take us.length)).map eD)) ?ka ?kb ?kc ?_; (case ka => rfl); (case kb => rfl); (case kc => rfl)
      intro D ys pl h tk hP hcD hpl F1 N1
      rw [hul, List.take_length] at hP
      clear F2 N2
      replace N1 := news_mv2 N1
      have hlD : @LT.lt Nat _ lF D := hcD (lF, _) (.tail _ (.head _))
      have hown2 := own_gt (c := lF) hown (fun p hp => Nat.lt_trans hlD (hpl p hp))
      dsimp only at F1 N1 ⊢
      obtain ⟨ll, lvs, ln, rfl, hll, hla⟩ := list_inv hdl
      k_steps
      have hyl : ys.length ≤ 3 := by
        rw [datAll_len hP, List.length_map]
        exact Nat.le_trans (List.length_filterMap_le _ _) hr3.2
      have hll8 : lvs.length ≤ 8 := by
        rw [datAll_len hla, List.length_map]
        exact letsS_len _ _
      unfold Stop CoGo
      refine co_seq1 rfl rfl (by show ys.length ≤ sizeLine; exact Nat.le_trans hyl (by decide)) (fun _ _ => rfl) (fun _ => rfl) (by rfl) (by rfl) (fun _ _ => rfl) (fun j zs p2 => p2 = [] ∧ ∃ ls : List (List Int), DatAll pl zs (ls.map eD) ∧ (ls = [] ↔ ∀ a ∈ (ownsOf sz r.2).take j, ¬ ∀ b ∈ letsS sz W, b ∉ a)) _ (.head _) F1 N1 ⟨rfl, [], .nil, by simp⟩ ?_ ?_
      · intro j v zs p2 J oJ D2 C oC oc h tk E' hv hP2 hn hoc lJD lDC hJ hpo F3 N3
        obtain ⟨rfl, ls, hls, hlj⟩ := hP2
        obtain ⟨a, ha, haD⟩ := all_get hP hv
        have hlsa := all_snoc hls haD
        obtain ⟨lv, xs, nx, rfl, hlv, hxa⟩ := list_inv haD
        clear F1 N1
        simp only [List.nil_append] at N3
        dsimp only at F3 N3 ⊢
        k_steps
        unfold Stop CoGo
        refine co_seq (.inl rfl) rfl (by show lvs.length ≤ sizeLine; exact Nat.le_trans hll8 (by decide)) (by decide) (by rfl) (by rfl) (BName (Str.ofString "one")) (fun k ws p4 => p4 = [] ∧ ∃ bs : List Int, DatAll [] ws (bs.map Dat.int) ∧ (bs = [] ↔ ∀ b ∈ (letsS sz W).take k, b ∉ a)) _ (by k_dflt k_mem) F3 N3 ⟨rfl, [], .nil, by simp⟩ (co_name (by rfl) (by rfl)) ?_ ?_
        · intro k v ws p4 J2 oJ2 D4 C4 oC4 mC4 h4 tk4 E4 hv4 hP4 hn4 hB4 l41 l42 hJ4 hp4 F5 N5
          obtain ⟨rfl, bs, hbs, hbi⟩ := hP4
          obtain ⟨b, hb, hbD⟩ := all_get hla hv4
          obtain ⟨tb, rfl⟩ := int_inv hbD
          unfold BName at hB4
          clear F3 N3
          simp only [List.nil_append] at N5
          dsimp only at F5 N5 ⊢
          k_steps
          · rename_i ht
            have hn0 : Dat.int b ∈ a.map Dat.int := by simpa only [decide_eq_true_eq] using ht
            have hin := mem_int.mp hn0
            exact CoEnd.same F5 N5 (fun _ h => h) ⟨rfl, bs ++ [b], by rw [List.map_append]; exact all_snoc hbs (.int _ _), by rw [forall_take_succ hb]; simp [hin]⟩
          · rename_i ht
            have hn0 : ¬ (Dat.int b ∈ a.map Dat.int) := by simpa only [decide_eq_false_iff_not] using ht
            have hni : b ∉ a := fun h => hn0 (mem_int.mpr h)
            exact CoEnd.same F5 N5 (fun _ h => h) ⟨rfl, bs, hbs, by rw [forall_take_succ hb, hbi]; simp [hni]⟩
        · refine co_fin_eval (P := fun ws p4 => p4 = [] ∧ ∃ bs : List Int, DatAll [] ws (bs.map Dat.int) ∧ (bs = [] ↔ ∀ b ∈ (letsS sz W).take lvs.length, b ∉ a)) ?_
          intro D4 ws p4 h4 tk4 hP4 hcD4 hpl4 F5 N5
          obtain ⟨rfl, bs, hbs, hbi⟩ := hP4
          rw [datAll_len hla, List.length_map, List.take_length] at hbi
          clear F3 N3
          simp only [List.nil_append] at N5
          dsimp only at F5 N5 ⊢
          k_steps
          · rename_i lE hE FE NE hlE ht
            have hb0 : bs = [] := by simpa using ht
            exact CoEnd.same FE NE (fun p hp => .tail _ (.tail _ hp)) ⟨rfl, ls ++ [a], by rw [List.map_append]; exact hlsa, by rw [forall_take_succ ha]; exact ⟨fun h => absurd h (by simp), fun h => absurd (hbi.mp hb0) h.2⟩⟩
          · rename_i lE hE FE NE hlE ht
            have hb0 : ¬ bs = [] := by simpa using ht
            exact CoEnd.same FE NE (fun p hp => .tail _ (.tail _ hp)) ⟨rfl, ls, hls, by rw [forall_take_succ ha, hlj]; exact ⟨fun h => ⟨h, fun h' => hb0 (hbi.mpr h')⟩, fun h => h.1⟩⟩
      · intro D2 C oC mC oc zs p2 h tk hP2
        refine' co_fin_assign (P := fun zs p2 => ∃ ls : List (List Int), DatAll pl zs (ls.map eD) ∧ (ls = [] ↔ ∀ a ∈ (ownsOf sz r.2).take ys.length, ¬ ∀ b ∈ letsS sz W, b ∉ a)) ?ka ?kb ?kc ?_ D2 C oC mC zs ((C + 1, oc) :: p2) h tk hP2.2; (case ka => rfl); (case kb => rfl); (case kc => rfl)
        intro D2 zs p2 h tk hP2 hcD2 hpl2 F3 N3
        obtain ⟨ls, hls, hlj⟩ := hP2
        rw [datAll_len hP, List.length_map, List.take_length, ownsOf_all] at hlj
        have hlk := okLL ls
        have hlD2 : @LT.lt Nat _ lF D2 := hcD2 (lF, _) (.tail _ (.tail _ (.head _)))
        clear F1 N1
        dsimp only at F3 N3 ⊢
        replace N3 : News _ _ _ ((D2, LCg.lst zs) :: (D, LCg.lst ys) :: (I, oI) :: (lF, listOf vs.toArray n) :: (pl ++ (pool ++ ((L' + 1 + 1 + 1, oB) :: (L' + 1 + 1, o2) :: (L' + 1, o3) :: (tl ++ news))))) := fun p hp => N3 p ((List.mem_cons.mp hp).elim (fun h => h ▸ .head _) fun h => .tail _ (List.mem_append.mpr (.inr h)))
        have hW8 := letsS_len sz W
        k_steps
        · rename_i lE hE FE NE hlE hds0
          unfold Stop CoGo
          refine co_seq (.inr rfl) rfl (by show us.length ≤ sizeLine; rw [hul]; exact Nat.le_trans hr3.2 (by decide)) (by decide) (by rfl) (by rfl) (BName (Str.ofString "row")) (fun j zs p3 => p3 = [] ∧ DatAll news zs (((r.2.take j).filter (askP (inL sz) W)).map (entD sz))) _ (by k_dflt k_mem) FE NE ⟨rfl, .nil⟩ (co_name (by rfl) (by rfl)) ?_ ?_
          · intro j v ws p3 J oJ D4 C oC mC h4 tk4 E' hv hP3 hn hB lJD lDC hJ hpo F5 N5
            obtain ⟨rfl, hws⟩ := hP3
            obtain ⟨e, he, heD⟩ := all_get hua hv
            obtain ⟨t', n', tf', v2, rfl, hm', hD2⟩ := ent_inv heD
            have heo : ownOk field e := hr3.1 e (List.mem_of_getElem? he)
            have hsn := all_snoc hws heD
            unfold BName at hB
            clear FE NE
            simp only [List.nil_append] at N5
            dsimp only at F5 N5 ⊢
            obtain ⟨f, o⟩ := e
            cases o with
            | own V =>
              obtain ⟨hf, hV⟩ := heo
              dsimp only at hf
              subst hf
              dsimp only [ownD] at hD2 hm'
              k_steps
              · rename_i h0
                exact absurd rfl h0
              rename_i h0 c0 r10 h10 t10 F10 tl10 lt10 hd10 N10
              unfold Stop
              clear N5 F5
              k_steps
              · rename_i ht
                exact CoEnd.same (by k_asm) (by k_asm) (fun p hp => List.mem_append.mpr (.inr hp)) ⟨rfl, by rw [List.take_add_one, he, List.filter_append, filter_one]; simpa [askP, inL, ht] using hws⟩
              · rename_i ht
                exact CoEnd.same (by k_asm) (by k_asm) (fun p hp => List.mem_append.mpr (.inr hp)) ⟨rfl, by rw [List.take_add_one, he, List.filter_append, filter_one]; simpa [askP, inL, ht] using hsn⟩
            | oth d =>
              obtain ⟨hf, _⟩ := heo
              dsimp only at hf hm'
              k_steps
              · exact CoEnd.same F5 N5 (fun _ h => h) ⟨rfl, by rw [List.take_add_one, he, List.filter_append, filter_one]; simpa [askP] using hsn⟩
              · rename_i h0 c0
                exact absurd h0 hf
          · refine' co_fin_assign (P := fun zs p3 => p3 = [] ∧ DatAll news zs (((r.2.take us.length).filter (askP (inL sz) W)).map (entD sz))) ?ka ?kb ?kc ?_; (case ka => rfl); (case kb => rfl); (case kc => rfl)
            intro D4 ws p3 h4 tk4 hP3 hcD4 hpl4 F5 N5
            obtain ⟨rfl, hws⟩ := hP3
            rw [hul, List.take_length] at hws
            clear FE NE
            simp only [List.nil_append] at N5
            have hlD4 : @LT.lt Nat _ lF D4 := hcD4 (lF, _) (.tail _ (.tail _ (.tail _ (.tail _ (.head _)))))
            dsimp only at F5 N5 ⊢
            have hwl : ws.length ≤ 3 := by
              rw [datAll_len hws, List.length_map]
              exact Nat.le_trans (List.length_filter_le _ _) hr3.2
            k_steps
            rename_i T1 hT1 hlT1 T hT hlT hU FT NT
            have hall : r.2.all (metP (meetL sz) W) = true := by
              rw [List.all_eq_true]
              refine fun e he => metP_iff.mpr fun V hV => ?_
              have h0 := hlj.mp (by simpa using hds0) e he V hV
              unfold meetL
              rw [List.any_eq_true]
              by_cases hq : ∃ b ∈ letsS sz W, b ∈ letsS sz V
              · obtain ⟨b, hb, hb2⟩ := hq
                exact ⟨b, hb, by simpa using hb2⟩
              · exact absurd (fun b hb hb2 => hq ⟨b, hb, hb2⟩) h0
            have hTF : @LT.lt Nat _ lF T := hlT.2.2.2.2.2.2.1
            have hTI : @LT.lt Nat _ I T := hlT.2.2.2.2.2.1
            have hTF1 : @LT.lt Nat _ lF T1 := hlT1.2.2.2.2.2.1
            have hTI1 : @LT.lt Nat _ I T1 := hlT1.2.2.2.2.1
            have hT3 : ∀ q ∈ news, @LT.lt Nat _ q.1 T := fun q hq => allLt_mem hlT.2.2.2.2.2.2.2 q (List.mem_append.mpr (.inr (List.mem_append.mpr (.inr (.tail _ (.tail _ (.tail _ (List.mem_append.mpr (.inr hq)))))))))
            have hT4 : ∀ q ∈ news, @LT.lt Nat _ q.1 T1 := fun q hq => allLt_mem hlT1.2.2.2.2.2.2 q (List.mem_append.mpr (.inr (List.mem_append.mpr (.inr (.tail _ (.tail _ (.tail _ (List.mem_append.mpr (.inr hq)))))))))
            refine FoEnd.intro ⟨vs ++ [.ref T], n + 1, (T, tupObj [.int r.1 tp, .ref T1] 0) :: (T1, tupObj ws 0) :: pool, (Str.ofString "left", .ref D4) :: (Str.ofString "lone", .ref D2) :: (Str.ofString "own", .ref D) :: (Str.ofString "asked", .ref ta) :: (Str.ofString "place", .int r.1 tp) :: ex⟩ FT NT (by refine fr_ext [Str.ofString "left", Str.ofString "lone", Str.ofString "own", Str.ofString "asked", Str.ofString "place", Str.ofString "found", Str.ofString "wish", Str.ofString "rows"] (by repeat (first | exact trivial | refine ⟨rfl, ?_⟩)) ?_; intro y hy; simp only [noneOf, and_true] at hy; simp only [fr, hy, if_false]) ?_ (by simp) ?_ ⟨?_, own_cons (own_cons hown (Nat.ne_of_gt hTF1)) (Nat.ne_of_gt hTF), ?_⟩
            · intro p hp
              simp only [List.mem_cons, List.mem_append] at hp ⊢
              rcases hp with h | (h | h | h) | h | h | h | h | h <;> simp [h]
            · intro p hp
              simp only [List.mem_cons, List.mem_append] at hp
              rcases hp with h | (h | h | h) | h
              · exact .inl ⟨(lF, _), .head _, by rw [h]⟩
              · exact .inr (by rw [h]; exact hTI)
              · exact .inr (by rw [h]; exact hTI1)
              · exact .inl ⟨p, .tail _ (List.mem_append.mpr (.inl h)), rfl⟩
              · exact .inl ⟨p, .tail _ (List.mem_append.mpr (.inr (by simpa using h))), rfl⟩
            · rw [soF_snoc hr, hall, if_pos rfl, List.map_append]
              exact all_snoc (hz.mono fun p hp => .tail _ (.tail _ hp)) (DatIn.tuple (vs := [_, _]) (.head _) (.cons (.int _ _) (.cons (DatIn.tuple (vs := ws) (.tail _ (.head _)) (hws.mono fun p hp => .tail _ (.tail _ (List.mem_append.mpr (.inr hp))))) .nil)))
            · intro q hq p hp
              rcases List.mem_cons.mp hp with rfl | hp
              · exact hT3 q hq
              · rcases List.mem_cons.mp hp with rfl | hp
                · exact hT4 q hq
                · exact hord q hq p hp
        · rename_i lE hE FE NE hlE hds0
          have hall : r.2.all (metP (meetL sz) W) = false := by
            rw [Bool.eq_false_iff]
            intro h
            rw [List.all_eq_true] at h
            have h0 : ¬ ls = [] := by simpa using hds0
            exact h0 (hlj.mpr fun e he V hV hno => by
              have := metP_iff.mp (h e he) V hV
              obtain ⟨b, hb, hb2⟩ := List.any_eq_true.mp this
              exact hno b hb (by simpa using hb2))
          refine FoEnd.intro ⟨vs, n, pool, (Str.ofString "lone", .ref D2) :: (Str.ofString "own", .ref D) :: (Str.ofString "asked", .ref ta) :: (Str.ofString "place", .int r.1 tp) :: ex⟩ FE NE (by refine fr_ext [Str.ofString "lone", Str.ofString "own", Str.ofString "asked", Str.ofString "place", Str.ofString "found", Str.ofString "wish", Str.ofString "rows"] (by repeat (first | exact trivial | refine ⟨rfl, ?_⟩)) ?_; intro y hy; simp only [noneOf, and_true] at hy; simp only [fr, hy, if_false]) ?_ (by simp) (fun p hp => .inl ⟨p, hp, rfl⟩) ⟨?_, hown, hord⟩
          · intro p hp
            simp only [List.mem_cons, List.mem_append] at hp ⊢
            rcases hp with h | h | h | h | h | h | h <;> simp [h]
          · rw [soF_snoc hr, hall]
            simpa using hz
  · rintro ⟨vs, n, pool, ex⟩ h tk ⟨hz, hown, hord⟩ F1 N1
    clear F9 N9
    dsimp only at hz hown hord F1 N1 ⊢
    k_steps
    rename_i kF kN Tc kX
    have hlen : vrs.length = R.length := by rw [datAll_len har, List.length_map]
    rw [hlen, List.take_length] at hz
    refine hret _ (((lF, listOf vs.toArray n) :: (pool ++ tl)) ++ news) _ _ kF (fun p hp => kN p ?_) ⟨_, rfl, ?_, DatIn.list (.head _) (hz.mono fun p hp => .tail _ ?_)⟩
    · simp only [List.cons_append, List.mem_cons, List.mem_append] at hp ⊢
      rcases hp with h | (h | h) | h <;> simp [h]
    · intro q hq p hp
      rcases List.mem_cons.mp hp with rfl | hp
      · exact allLt_mem hlF.2.2.2 q hq
      · rcases List.mem_append.mp hp with hp | hp
        · exact hord q hq p hp
        · exact hTn q hq p hp
    · exact (List.mem_append.mp hp).elim (fun h => List.mem_append.mpr (.inl (List.mem_append.mpr (.inl h)))) fun h => List.mem_append.mpr (.inr h)
end
end
section
open PySem.Calls
section
set_option maxHeartbeats 0 in
theorem rows_if_so_does (w : World) (news : Led) (vr vw : Value) (R : List Row) (W : Wish) (field sz : Int) (tf : Tok) (hp : okPair field sz) (hW : W.ok) (hR : rowsOk field R) (hDr : DatIn news vr (rowsD sz R)) (hDw : DatIn news vw (wishD sz W)) :
   Does w 4 120 83 news [vr, .int field tf, vw] (fun r news' => ∃ tl, news' = tl ++ news ∧ (∀ q ∈ news, ∀ p ∈ tl, q.1 < p.1) ∧ DatIn (tl ++ news) r (rowsD sz (soF (meetsS sz) (withinS sz) W R))) := by
  k_with_none
  k_with "k_ne" => (refine neN ?_; (try dsimp only); first | with_reducible assumption | exact Ne.symm (by with_reducible assumption) | (refine Nat.ne_of_gt ?_; k_extra "lt") | (refine Nat.ne_of_lt ?_; k_extra "lt") | omega)
  k_with "lt" => first | with_reducible assumption | exact And.left (by with_reducible assumption) | exact And.left (And.right (by with_reducible assumption)) | exact And.left (And.right (And.right (by with_reducible assumption))) | exact And.left (And.right (And.right (And.right (by with_reducible assumption)))) | exact And.left (And.right (And.right (And.right (And.right (by with_reducible assumption))))) | exact And.left (And.right (And.right (And.right (And.right (And.right (by with_reducible assumption)))))) | exact And.left (And.right (And.right (And.right (And.right (And.right (And.right (by with_reducible assumption)))))))
  k_with "exec For Name Call cons nil" => k_dflt (refine wpAny_For ?_ (by intro _; rfl))
  k_with "exec For Tuple Name cons nil" => k_dflt (refine wpAny_For ?_ (by intro _; rfl))
  k_with "pyIter ref" => refine Stop.go ?_
  k_with "FoPost" => (dsimp only [FoPost])
  k_with "subscriptTail" => (k_here; (with_reducible show wpAny _ _ (subscriptTail _ _ (Value.ref 22) (Value.int _ _)) _ _ _); k_dflt (refine' bits_item ?zk19 ?zk29 ?zk39 ?_ ?zk49; (case zk19 => k_asm); (case zk29 => k_asm); (case zk39 => assumption); (case zk49 => with_unfolding_all rfl)); intro _)
  k_with "call ref" => (k_here; (with_reducible show wpAny _ _ (call (Value.ref 64) _ _) _ _ _); (refine' Does.use (is_wish_within_does _ _ _ _ _ _ _ _ _ (okPair.size (by assumption)) (by first | rfl | assumption) ?zuw9 ?zua9 ?zub9) ?zuB9 ?zuF9 ?zuX9 ?zuN9 ?zuT9 ?zuK9 ?zuD9 ?zuU9 ?_); (case zuB9 => first | k_asm | ktn_no "use: the frames below"); (case zuF9 => first | k_asm | ktn_no "use: the frame"); (case zuX9 => first | k_asm | ktn_no "use: the written part"); (case zuN9 => first | k_asm | ktn_no "use: the ledger"); (case zuT9 => first | k_asm | ktn_no "use: the top"); (case zuK9 => first | exact rfl | assumption | ktn_no "use: the caller"); (case zuD9 => first | ktr_room | ktn_no "use: room"); (case zuU9 => first | ktr_units | ktn_no "use: units"); (case zua9 => (first | assumption | (refine' DatIn.mono ?zum9 ?zud9; (case zud9 => assumption); (case zum9 => (intro p9 h9; simp [h9]))))); (case zub9 => (first | assumption | (refine' DatIn.mono ?zum9 ?zud9; (case zud9 => assumption); (case zum9 => (intro p9 h9; simp [h9]))))); (case zuw9 => assumption); intro _ _ _ _ _ _ hp9; obtain ⟨e9, er9⟩ := hp9; subst e9; subst er9; (try dsimp only))
  k_with "call ref" => (k_here; (with_reducible show wpAny _ _ (call (Value.ref 71) _ _) _ _ _); (refine' Does.use (do_wishes_meet_does _ _ _ _ _ _ _ _ _ (okPair.size (by assumption)) (by first | rfl | assumption) ?zuw9 ?zuv9 ?zua9 ?zub9) ?zuB9 ?zuF9 ?zuX9 ?zuN9 ?zuT9 ?zuK9 ?zuD9 ?zuU9 ?_); (case zuB9 => first | k_asm | ktn_no "use: the frames below"); (case zuF9 => first | k_asm | ktn_no "use: the frame"); (case zuX9 => first | k_asm | ktn_no "use: the written part"); (case zuN9 => first | k_asm | ktn_no "use: the ledger"); (case zuT9 => first | k_asm | ktn_no "use: the top"); (case zuK9 => first | exact rfl | assumption | ktn_no "use: the caller"); (case zuD9 => first | ktr_room | ktn_no "use: room"); (case zuU9 => first | ktr_units | ktn_no "use: units"); (case zua9 => (first | assumption | (refine' DatIn.mono ?zum9 ?zud9; (case zud9 => assumption); (case zum9 => (intro p9 h9; simp [h9]))))); (case zub9 => (first | assumption | (refine' DatIn.mono ?zum9 ?zud9; (case zud9 => assumption); (case zum9 => (intro p9 h9; simp [h9]))))); (case zuw9 => assumption); (case zuv9 => assumption); intro _ _ _ _ _ _ hp9; obtain ⟨e9, er9⟩ := hp9; subst e9; subst er9; (try dsimp only))
  k_with "call type:tuple" => (k_here; (with_reducible show wpAny _ _ (call (Value.type _) [Value.ref _]) _ _ _); k_dflt (refine' my_tupleOf ?zk19 ?zk29 ?zk39 ?zk49 ?_; (case zk19 => k_asm); (case zk29 => k_asm); (case zk39 => k_mem); (case zk49 => first | assumption | omega); k_whole); intro _ _ _ _ l1; (try k_lt l1); revert l1; intro _; (try k_sweep))
  obtain ⟨lr, vrs, nr, rfl, hmr, har⟩ := list_inv hDr
  unfold Does
  k_fill
  intro mean mg mb dp un gd cn cs fa ccd cl outer A₀ base h₀ L m s Q E B F X N T hk hd hu hret
  refine wpAny_call ?_
  k_dflt ktr_enter
  (rename Fr _ _ _ (fun _ => List.lookup _ _) => FE)
  replace FE := fr_entry (l' := [(Str.ofString "wish", vw), (Str.ofString "field", .int field tf), (Str.ofString "rows", .ref lr)]) FE rfl
  k_steps
  rename_i g9 L9 h5 FG9 B9 X9 T9 lF h6 hlF tB D5 h7 hlD5 h8 h9 hA F9 N9
  clear hlD5
  unfold Stop
  with_unfolding_all refine my_for_seq (σ := RwSt) (.inl rfl) rfl (fun c => (lF, listOf c.vs.toArray c.n) :: (c.pool ++ news)) (fun c => (Str.ofString "found", .ref lF) :: (Str.ofString "bits", .int (bitsOf sz) tB) :: (Str.ofString "wish", vw) :: (Str.ofString "field", .int field tf) :: (Str.ofString "rows", .ref lr) :: c.ex) (fun i c => DatAll (c.pool ++ news) c.vs ((soF (meetsS sz) (withinS sz) W (R.take i)).map (rowD sz)) ∧ OwnOff (c.pool ++ news) [lF] ∧ (∀ q ∈ news, ∀ p ∈ c.pool, q.1 < p.1)) ⟨[], 0, [], []⟩ (by rfl) F9 N9 rfl (fun _ h => .tail _ h) (fun _ _ _ => .tail _ (List.mem_append.mpr (.inr hmr))) ⟨.nil, own_lt hlF, fun _ _ _ h => absurd h List.not_mem_nil⟩ ?_ ?_
  · rintro i ⟨vs, n, pool, ex⟩ v I oI h tk hv ⟨hz, hown, hord⟩ hoff F1 N1
    obtain ⟨r, hr, hrD⟩ := all_get har hv
    obtain ⟨t, nt, tp, ta, us, kt, rfl, ht, hta, hua⟩ := row_inv hrD
    have hIF : @Ne Nat lF I := hoff (lF, _) (.head _)
    have hul : us.length = r.2.length := by rw [datAll_len hua, List.length_map]
    have hr3 : rowOk field r := hR.1 r (List.mem_of_getElem? hr)
    have hvl : vs.length ≤ 4 := by
      rw [datAll_len hz, List.length_map, soF, List.length_map]
      exact Nat.le_trans (List.length_filter_le _ _) (Nat.le_trans (List.length_take_le' _ _) hR.2)
    clear F9 N9
    dsimp only at hz hown hord hoff F1 N1 ⊢
    k_steps
    rename_i hA1 FA NA hA2 hA3 lL hA4 hlL D6 hA5 hlD6 hA6 hA7 hA8 F2 N2
    clear hlD6 FA NA
    have hLn : OwnOff (pool ++ news) [lL] := own_lt (fun p hp => allLt_mem hlL.2.2 p hp)
    have hLF : @LT.lt Nat _ lF lL := hlL.2.1
    have hLI : @LT.lt Nat _ I lL := hlL.1
    unfold Stop
    with_unfolding_all refine my_for_seq (σ := LfSt) (.inr rfl) rfl (fun c => (lL, listOf c.vs.toArray c.n) :: (I, oI) :: (lF, listOf vs.toArray n) :: (c.pool ++ (pool ++ news))) (fun c => (Str.ofString "left", .ref lL) :: (Str.ofString "is_possible", .bool c.ok) :: (Str.ofString "asked", .ref ta) :: (Str.ofString "place", .int r.1 tp) :: (Str.ofString "found", .ref lF) :: (Str.ofString "bits", .int (bitsOf sz) tB) :: (Str.ofString "wish", vw) :: (Str.ofString "field", .int field tf) :: (Str.ofString "rows", .ref lr) :: c.ex) (fun j c => c.ok = (r.2.take j).all (metP (meetsS sz) W) ∧ DatAll (c.pool ++ news) c.vs (((r.2.take j).filter (leftP (meetsS sz) (withinS sz) W)).map (entD sz)) ∧ ∀ p ∈ c.pool, @LT.lt Nat _ lL p.1) ⟨[], 0, true, [], ex⟩ (by rfl) F2 N2 rfl (fun _ h => .tail _ h) (fun _ _ _ => .tail _ (.tail _ (.tail _ (List.mem_append.mpr (.inr (List.mem_append.mpr (.inr hta))))))) ⟨rfl, .nil, fun _ h => absurd h List.not_mem_nil⟩ ?_ ?_
    · rintro j ⟨ws, n2, ok, pl, ex2⟩ v2 J oJ h2 tk2 hv2 ⟨hok, hws, hpl⟩ hoff2 F3 N3
      obtain ⟨e, he, heD⟩ := all_get hua hv2
      obtain ⟨t', n', tf', w2, rfl, hm', hD2⟩ := ent_inv heD
      have heo : ownOk field e := hr3.1 e (List.mem_of_getElem? he)
      have hLJ : @Ne Nat lL J := hoff2 (lL, _) (.head _)
      have hwl : ws.length ≤ 3 := by
        rw [datAll_len hws, List.length_map]
        exact Nat.le_trans (List.length_filter_le _ _) (Nat.le_trans (List.length_take_le' _ _) hr3.2)
      clear F2 N2
      dsimp only at hok hws hpl hoff2 F3 N3 ⊢
      have hL2 := own_gt hLn hpl
      obtain ⟨f, o⟩ := e
      cases o with
      | own V =>
        obtain ⟨hf, hV⟩ := heo
        dsimp only at hf
        subst hf
        dsimp only [ownD] at hD2 hm'
        k_steps
        · rename f ≠ f => h0
          exact absurd rfl h0
        · rename_i F9 N9 hw1
          rename meetsS sz V W = true => hm1
          refine FoEnd.intro ⟨ws, n2, ok, pl, (Str.ofString "own", w2) :: (Str.ofString "own_field", .int f tf') :: ex2⟩ F9 N9 (by refine fr_ext [Str.ofString "left", Str.ofString "is_possible", Str.ofString "own_field", Str.ofString "own", Str.ofString "asked", Str.ofString "place", Str.ofString "found", Str.ofString "bits", Str.ofString "wish", Str.ofString "field", Str.ofString "rows"] (by repeat (first | exact trivial | refine ⟨rfl, ?_⟩)) ?_; intro y hy; simp only [noneOf, and_true] at hy; simp only [fr, hy, if_false]) (fun p hp => .tail _ hp) (.head _) (fun p hp => .inl ⟨p, hp, rfl⟩) ⟨?_, ?_, hpl⟩
          · rw [all_snoc_take he, ← hok]; simp [metP, hm1]
          · rw [filter_snoc_take he]; simpa [leftP, hm1, hw1] using hws
        · rename_i T hT hlT hU FT NT
          rename meetsS sz V W = true => hm1
          rename withinS sz W V = false => hw1
          refine FoEnd.intro ⟨ws ++ [.ref T], n2 + 1, ok, (T, tupObj [.int f tf', w2] 0) :: pl, (Str.ofString "own", w2) :: (Str.ofString "own_field", .int f tf') :: ex2⟩ FT NT (by refine fr_ext [Str.ofString "left", Str.ofString "is_possible", Str.ofString "own_field", Str.ofString "own", Str.ofString "asked", Str.ofString "place", Str.ofString "found", Str.ofString "bits", Str.ofString "wish", Str.ofString "field", Str.ofString "rows"] (by repeat (first | exact trivial | refine ⟨rfl, ?_⟩)) ?_; intro y hy; simp only [noneOf, and_true] at hy; simp only [fr, hy, if_false]) ?_ (by simp) ?_ ⟨?_, ?_, ?_⟩
          · intro p hp
            simp only [List.mem_cons, List.mem_append] at hp ⊢
            rcases hp with h | h | h | (h | h) | h | h <;> simp [h]
          · intro p hp
            simp only [List.mem_cons, List.mem_append] at hp
            rcases hp with h | h | h | (h | h) | h
            · exact .inl ⟨(lL, _), .head _, by rw [h]⟩
            · exact .inl ⟨_, .tail _ (.head _), by rw [h]⟩
            · exact .inl ⟨_, .tail _ (.tail _ (.head _)), by rw [h]⟩
            · exact .inr (by rw [h]; exact hlT.1)
            · exact .inl ⟨p, .tail _ (.tail _ (.tail _ (List.mem_append.mpr (.inl h)))), rfl⟩
            · exact .inl ⟨p, .tail _ (.tail _ (.tail _ (List.mem_append.mpr (.inr (by simpa using h))))), rfl⟩
          · rw [all_snoc_take he, ← hok]; simp [metP, hm1]
          · rw [filter_snoc_take he, List.map_append]
            simp only [leftP, hm1, hw1, Bool.not_false, Bool.and_true, if_true, List.map_cons, List.map_nil]
            exact all_snoc (hws.mono fun p hp => .tail _ hp) (DatIn.tuple (vs := [_, _]) (.head _) (.cons (.int _ _) (.cons (hD2.mono fun p hp => .tail _ (List.mem_append.mpr (.inr hp))) .nil)))
          · intro p hp
            rcases List.mem_cons.mp hp with rfl | hp
            · exact hlT.2.1
            · exact hpl p hp
        · rename_i hU F9 N9
          rename meetsS sz V W = false => hm1
          refine FoEnd.intro ⟨ws, n2, false, pl, (Str.ofString "own", w2) :: (Str.ofString "own_field", .int f tf') :: ex2⟩ F9 N9 (by refine fr_ext [Str.ofString "left", Str.ofString "is_possible", Str.ofString "own_field", Str.ofString "own", Str.ofString "asked", Str.ofString "place", Str.ofString "found", Str.ofString "bits", Str.ofString "wish", Str.ofString "field", Str.ofString "rows"] (by repeat (first | exact trivial | refine ⟨rfl, ?_⟩)) ?_; intro y hy; simp only [noneOf, and_true] at hy; simp only [fr, hy, if_false]) (fun p hp => .tail _ hp) (.head _) (fun p hp => .inl ⟨p, hp, rfl⟩) ⟨?_, ?_, hpl⟩
          · rw [all_snoc_take he]; simp [metP, hm1]
          · rw [filter_snoc_take he]; simpa [leftP, hm1] using hws
      | oth d =>
        obtain ⟨hf, _⟩ := heo
        dsimp only [ownD] at hf hm' hD2
        k_steps
        · rename_i T hT hlT hU FT NT
          refine FoEnd.intro ⟨ws ++ [.ref T], n2 + 1, ok, (T, tupObj [.int f tf', w2] 0) :: pl, (Str.ofString "own", w2) :: (Str.ofString "own_field", .int f tf') :: ex2⟩ FT NT (by refine fr_ext [Str.ofString "left", Str.ofString "is_possible", Str.ofString "own_field", Str.ofString "own", Str.ofString "asked", Str.ofString "place", Str.ofString "found", Str.ofString "bits", Str.ofString "wish", Str.ofString "field", Str.ofString "rows"] (by repeat (first | exact trivial | refine ⟨rfl, ?_⟩)) ?_; intro y hy; simp only [noneOf, and_true] at hy; simp only [fr, hy, if_false]) ?_ (by simp) ?_ ⟨?_, ?_, ?_⟩
          · intro p hp
            simp only [List.mem_cons, List.mem_append] at hp ⊢
            rcases hp with h | h | h | (h | h) | h | h <;> simp [h]
          · intro p hp
            simp only [List.mem_cons, List.mem_append] at hp
            rcases hp with h | h | h | (h | h) | h
            · exact .inl ⟨(lL, _), .head _, by rw [h]⟩
            · exact .inl ⟨_, .tail _ (.head _), by rw [h]⟩
            · exact .inl ⟨_, .tail _ (.tail _ (.head _)), by rw [h]⟩
            · exact .inr (by rw [h]; exact hlT.1)
            · exact .inl ⟨p, .tail _ (.tail _ (.tail _ (List.mem_append.mpr (.inl h)))), rfl⟩
            · exact .inl ⟨p, .tail _ (.tail _ (.tail _ (List.mem_append.mpr (.inr (by simpa using h))))), rfl⟩
          · rw [all_snoc_take he, ← hok]; simp [metP]
          · rw [filter_snoc_take he, List.map_append]
            simp only [leftP, if_true, List.map_cons, List.map_nil]
            exact all_snoc (hws.mono fun p hp => .tail _ hp) (DatIn.tuple (vs := [_, _]) (.head _) (.cons (.int _ _) (.cons (hD2.mono fun p hp => .tail _ (List.mem_append.mpr (.inr hp))) .nil)))
          · intro p hp
            rcases List.mem_cons.mp hp with rfl | hp
            · exact hlT.2.1
            · exact hpl p hp
        all_goals
          rename f = field => h0
          exact absurd h0 hf
    · rintro ⟨ws, n2, ok, pl, ex2⟩ h2 tk2 ⟨hok, hws, hpl⟩ F3 N3
      clear F2 N2
      dsimp only at hok hws hpl F3 N3 ⊢
      have hF2 := own_gt (c := lF) hown (fun p hp => Nat.lt_trans hLF (hpl p hp))
      rw [hul, List.take_length] at hok hws
      have hwl : ws.length ≤ 3 := by
        rw [datAll_len hws, List.length_map]
        exact Nat.le_trans (List.length_filter_le _ _) hr3.2
      k_steps
      · rename_i hokt T1 hT1 hlT1 T hT hlT hU FT NT
        have hall := hok.symm.trans hokt
        rw [left_ask hall] at hws
        have hTF : @LT.lt Nat _ lF T := hlT.2.2.2.1
        have hTI : @LT.lt Nat _ I T := hlT.2.2.1
        have hTF1 : @LT.lt Nat _ lF T1 := hlT1.2.2.1
        have hTI1 : @LT.lt Nat _ I T1 := hlT1.2.1
        have hT3 : ∀ q ∈ news, @LT.lt Nat _ q.1 T := fun q hq => allLt_mem hlT.2.2.2.2 q (List.mem_append.mpr (.inr (List.mem_append.mpr (.inr hq))))
        have hT4 : ∀ q ∈ news, @LT.lt Nat _ q.1 T1 := fun q hq => allLt_mem hlT1.2.2.2 q (List.mem_append.mpr (.inr (List.mem_append.mpr (.inr hq))))
        refine FoEnd.intro ⟨vs ++ [.ref T], n + 1, (T, tupObj [.int r.1 tp, .ref T1] 0) :: (T1, tupObj ws 0) :: (pl ++ pool), (Str.ofString "left", .ref lL) :: (Str.ofString "is_possible", .bool ok) :: (Str.ofString "asked", .ref ta) :: (Str.ofString "place", .int r.1 tp) :: ex2⟩ FT NT (by refine fr_ext [Str.ofString "left", Str.ofString "is_possible", Str.ofString "asked", Str.ofString "place", Str.ofString "found", Str.ofString "bits", Str.ofString "wish", Str.ofString "field", Str.ofString "rows"] (by repeat (first | exact trivial | refine ⟨rfl, ?_⟩)) ?_; intro y hy; simp only [noneOf, and_true] at hy; simp only [fr, hy, if_false]) ?_ (by simp) ?_ ⟨?_, ?_, ?_⟩
        · intro p hp
          simp only [List.mem_cons, List.mem_append] at hp ⊢
          rcases hp with h | (h | h | h | h) | h <;> simp [h]
        · intro p hp
          simp only [List.mem_cons, List.mem_append] at hp
          rcases hp with h | (h | h | h | h) | h
          · exact .inl ⟨(lF, _), .head _, by rw [h]⟩
          · exact .inr (by rw [h]; exact hTI)
          · exact .inr (by rw [h]; exact hTI1)
          · exact .inr (Nat.lt_trans hLI (hpl p h))
          · exact .inl ⟨p, .tail _ (List.mem_append.mpr (.inl h)), rfl⟩
          · exact .inl ⟨p, .tail _ (List.mem_append.mpr (.inr h)), rfl⟩
        · rw [soF_snoc hr, hall, if_pos rfl, List.map_append]
          exact all_snoc (hz.mono fun p hp => .tail _ (.tail _ (app_r hp))) (DatIn.tuple (vs := [_, _]) (.head _) (.cons (.int _ _) (.cons (DatIn.tuple (vs := ws) (.tail _ (.head _)) (hws.mono fun p hp => .tail _ (.tail _ (app_l hp)))) .nil)))
        · have := own_cons (own_cons (a := (T1, tupObj ws 0)) hF2 (Nat.ne_of_gt hTF1)) (a := (T, tupObj [.int r.1 tp, .ref T1] 0)) (Nat.ne_of_gt hTF)
          simpa only [List.append_assoc, List.cons_append] using this
        · intro q hq p hp
          rcases List.mem_cons.mp hp with rfl | hp
          · exact hT3 q hq
          · rcases List.mem_cons.mp hp with rfl | hp
            · exact hT4 q hq
            · rcases List.mem_append.mp hp with hp | hp
              · exact Nat.lt_trans (allLt_mem hlL.2.2 q (List.mem_append.mpr (.inr hq))) (hpl p hp)
              · exact hord q hq p hp
      · rename_i hokt
        have hall := hok.symm.trans hokt
        refine FoEnd.intro ⟨vs, n, pool, (Str.ofString "left", .ref lL) :: (Str.ofString "is_possible", .bool ok) :: (Str.ofString "asked", .ref ta) :: (Str.ofString "place", .int r.1 tp) :: ex2⟩ F3 N3 (by refine fr_ext [Str.ofString "left", Str.ofString "is_possible", Str.ofString "asked", Str.ofString "place", Str.ofString "found", Str.ofString "bits", Str.ofString "wish", Str.ofString "field", Str.ofString "rows"] (by repeat (first | exact trivial | refine ⟨rfl, ?_⟩)) ?_; intro y hy; simp only [noneOf, and_true] at hy; simp only [fr, hy, if_false]) ?_ (by simp) (fun p hp => .inl ⟨p, hp, rfl⟩) ⟨?_, hown, hord⟩
        · intro p hp
          simp only [List.mem_cons, List.mem_append] at hp ⊢
          rcases hp with h | h | h <;> simp [h]
        · rw [soF_snoc hr, hall]
          simpa using hz
  · rintro ⟨vs, n, pool, ex⟩ h tk ⟨hz, hown, hord⟩ F1 N1
    clear F9 N9
    dsimp only at hz hown hord F1 N1 ⊢
    k_steps
    rename_i kF kN Tc kX
    have hlen : vrs.length = R.length := by rw [datAll_len har, List.length_map]
    rw [hlen, List.take_length] at hz
    refine hret _ (((lF, listOf vs.toArray n) :: pool) ++ news) _ _ kF kN ⟨_, rfl, ?_, DatIn.list (.head _) (hz.mono fun p hp => .tail _ hp)⟩
    intro q hq p hp
    rcases List.mem_cons.mp hp with rfl | hp
    · exact hlF q hq
    · exact hord q hq p hp
end
end
section
open PySem.Calls
def allMasks : List Wish := (eighths 8).flatMap fun v => ((eighths 8).filter fun m => Builtin.bitAnd v m == v).map fun m => .mask v m
def allRanges : List Wish := (eighths 8).flatMap fun l => ((eighths 8).filter fun h => decide (l ≤ h)).map fun h => .range l h
def allWishes : List Wish := allMasks ++ allRanges
theorem mem_eighths {x : Int} (h0 : 0 ≤ x) (h7 : x ≤ 7) : x ∈ eighths 8 := by
  have hx : x = 0 ∨ x = 1 ∨ x = 2 ∨ x = 3 ∨ x = 4 ∨ x = 5 ∨ x = 6 ∨ x = 7 := by omega
  rcases hx with h | h | h | h | h | h | h | h <;> subst h <;> decide
theorem wish_all {W : Wish} (h : W.ok) : W ∈ allWishes := by
  cases W with
  | mask v m =>
    obtain ⟨h1, h2, h3, h4, h5⟩ := h
    refine List.mem_append.mpr (.inl (List.mem_flatMap.mpr ⟨v, mem_eighths h1 h2, List.mem_map.mpr ⟨m, List.mem_filter.mpr ⟨mem_eighths h3 h4, ?_⟩, rfl⟩⟩))
    rw [h5]; simp
  | range l h' =>
    obtain ⟨h1, h2, h3⟩ := h
    refine List.mem_append.mpr (.inr (List.mem_flatMap.mpr ⟨l, mem_eighths h1 (by omega), List.mem_map.mpr ⟨h', List.mem_filter.mpr ⟨mem_eighths (by omega) h3, ?_⟩, rfl⟩⟩))
    simpa using h2
theorem in_1 : (allWishes.all fun a => allWishes.all fun b => withinS 1 a b == inL 1 a b) = true := by decide +kernel
theorem meet_1 : (allWishes.all fun a => allWishes.all fun b => meetsS 1 a b == meetL 1 a b) = true := by decide +kernel
theorem in_32 : (allWishes.all fun a => allWishes.all fun b => withinS 32 a b == inL 32 a b) = true := by decide +kernel
theorem meet_32 : (allWishes.all fun a => allWishes.all fun b => meetsS 32 a b == meetL 32 a b) = true := by decide +kernel
theorem in_512 : (allWishes.all fun a => allWishes.all fun b => withinS 512 a b == inL 512 a b) = true := by decide +kernel
theorem meet_512 : (allWishes.all fun a => allWishes.all fun b => meetsS 512 a b == meetL 512 a b) = true := by decide +kernel
theorem in_8192 : (allWishes.all fun a => allWishes.all fun b => withinS 8192 a b == inL 8192 a b) = true := by decide +kernel
theorem meet_8192 : (allWishes.all fun a => allWishes.all fun b => meetsS 8192 a b == meetL 8192 a b) = true := by decide +kernel
theorem all2 {p : Wish → Wish → Bool} (h : (allWishes.all fun a => allWishes.all fun b => p a b) = true) {V W : Wish} (hV : V.ok) (hW : W.ok) : p V W = true :=
  List.all_eq_true.mp (List.all_eq_true.mp h V (wish_all hV)) W (wish_all hW)
theorem within_eq {s : Int} {V W : Wish} (hs : okSize s) (hV : V.ok) (hW : W.ok) : withinS s V W = inL s V W := by
  rcases hs with rfl | rfl | rfl | rfl
  · exact beq_iff_eq.mp (all2 in_1 hV hW)
  · exact beq_iff_eq.mp (all2 in_32 hV hW)
  · exact beq_iff_eq.mp (all2 in_512 hV hW)
  · exact beq_iff_eq.mp (all2 in_8192 hV hW)
theorem meets_eq {s : Int} {V W : Wish} (hs : okSize s) (hV : V.ok) (hW : W.ok) : meetsS s V W = meetL s V W := by
  rcases hs with rfl | rfl | rfl | rfl
  · exact beq_iff_eq.mp (all2 meet_1 hV hW)
  · exact beq_iff_eq.mp (all2 meet_32 hV hW)
  · exact beq_iff_eq.mp (all2 meet_512 hV hW)
  · exact beq_iff_eq.mp (all2 meet_8192 hV hW)
theorem own_ok {field : Int} {e : Ent} {V : Wish} (h : ownOk field e) (hV : e.2 = .own V) : V.ok := by
  unfold ownOk at h
  rw [hV] at h
  exact h.2
theorem notF_eq {field s : Int} {W : Wish} {R : List Row} (hp : okPair field s) (hW : W.ok) (hR : rowsOk field R) : notF (withinS s) W R = notF (inL s) W R := by
  refine List.filter_congr fun r hr => ?_
  have hr3 := hR.1 r hr
  rw [Bool.eq_iff_iff, List.all_eq_true, List.all_eq_true]
  have : ∀ e ∈ r.2, notP (withinS s) W e = notP (inL s) W e := fun e he => by
    unfold notP
    cases hV : e.2 with
    | own V => simp only [within_eq hp.size (own_ok (hr3.1 e he) hV) hW]
    | oth d => rfl
  exact ⟨fun h e he => this e he ▸ h e he, fun h e he => (this e he).symm ▸ h e he⟩
theorem soF_eq {field s : Int} {W : Wish} {R : List Row} (hp : okPair field s) (hW : W.ok) (hR : rowsOk field R) : soF (meetsS s) (withinS s) W R = soF (meetL s) (inL s) W R := by
  unfold soF
  have h1 : (R.filter fun r => r.2.all (metP (meetsS s) W)) = R.filter fun r => r.2.all (metP (meetL s) W) := by
    refine List.filter_congr fun r hr => ?_
    have hr3 := hR.1 r hr
    rw [Bool.eq_iff_iff, List.all_eq_true, List.all_eq_true]
    have : ∀ e ∈ r.2, metP (meetsS s) W e = metP (meetL s) W e := fun e he => by
      unfold metP
      cases hV : e.2 with
      | own V => simp only [meets_eq hp.size (own_ok (hr3.1 e he) hV) hW]
      | oth d => rfl
    exact ⟨fun h e he => this e he ▸ h e he, fun h e he => (this e he).symm ▸ h e he⟩
  rw [h1]
  refine List.map_congr_left fun r hr => ?_
  have hr3 := hR.1 r (List.mem_filter.mp hr).1
  congr 1
  refine List.filter_congr fun e he => ?_
  unfold askP
  cases hV : e.2 with
  | own V => simp only [within_eq hp.size hW (own_ok (hr3.1 e he) hV)]
  | oth d => rfl
theorem notF_ok {field : Int} {i : Wish → Wish → Bool} {W : Wish} {R : List Row} (hR : rowsOk field R) : rowsOk field (notF i W R) :=
  ⟨fun r hr => hR.1 r (List.mem_filter.mp hr).1, Nat.le_trans (List.length_filter_le _ _) hR.2⟩
theorem soF_ok {field : Int} {m i : Wish → Wish → Bool} {W : Wish} {R : List Row} (hR : rowsOk field R) : rowsOk field (soF m i W R) := by
  refine ⟨fun r hr => ?_, ?_⟩
  · obtain ⟨r0, h0, rfl⟩ := List.mem_map.mp hr
    have := hR.1 r0 (List.mem_filter.mp h0).1
    exact ⟨fun e he => this.1 e (List.mem_filter.mp he).1, Nat.le_trans (List.length_filter_le _ _) this.2⟩
  · unfold soF
    rw [List.length_map]
    exact Nat.le_trans (List.length_filter_le _ _) hR.2
theorem kqd_row {field s : Int} {r : Row} (h : rowOk field r) : kqdOk 8 (rowD s r) = true := by
  simp only [rowD, kqdOk, List.all_cons, List.all_nil, Bool.and_true, Bool.true_and, List.all_map]
  rw [List.all_eq_true]
  exact fun e he => kqd_ent (h.1 e he)
theorem kqd_rows {field s : Int} {R : List Row} (h : rowsOk field R) : ∀ d ∈ R.map (rowD s), kqdOk 8 d = true := fun d hd => by
  obtain ⟨r, hr, rfl⟩ := List.mem_map.mp hd
  exact kqd_row (h.1 r hr)
end
section
open PySem.Calls
section
variable {prog : Program} {w : World} {A : Around} {E : Value → Shared → Prop} {s : Shared} {h₀ : Heap} {L : Addr} {m : Str → Option Value} {news : Led} {Q : Value → Shared → Prop}
theorem ints_of {ks : List Int} : ∀ {vs : List Value}, vs.length = ks.length → (∀ (j : Nat) (v : Value), vs[j]? = some v → ∃ k t, ks[j]? = some k ∧ v = .int k t) → IntsAre vs ks := by
  induction ks with
  | nil => intro vs hl _; cases vs with
    | nil => exact .nil
    | cons _ _ => simp at hl
  | cons k ks ih => intro vs hl hv; cases vs with
    | nil => simp at hl
    | cons v vs =>
      obtain ⟨k', t, e, rfl⟩ := hv 0 v rfl
      simp at e
      subst e
      exact .cons _ t (ih (by simpa using hl) fun j u hu => by simpa using hv (j + 1) u (by simpa using hu))
theorem my_sorted_dict {kvs : List (Int × Value)} {d : Addr} {o : Obj} (hh : A.handled = none) (F : Fr h₀ L s.heap m) (N : News h₀ L s.heap news) (hp : (d, o) ∈ news) (hd : o.IsDictOf (PySem.intKind prog w) kvs) (lo : (d == sysModules) = false) (hn : kvs.length ≤ 3)
    (hdesc : (kvs.map (·.1)).reverse.Pairwise (· ≤ ·))
    (h : ∀ D h' tk vs c, Fr h₀ L h' m → News h₀ L h' ((D, listOf vs.toArray c) :: news) → (∀ q ∈ news, q.1 < D) → IntsAre vs (kvs.map (·.1)).reverse → Q (.ref D) { s with heap := h', toks := tk }) :
    wpAny (model prog w) A (call (.builtin "sorted") [.ref d]) Q E s := by
  obtain ⟨ep, hat⟩ := (kda_dict N hp hd).dictAt
  refine kdu_sorted (kdl_dict (knd := PySem.intKind prog w) (kvs := kvs) (ep := ep) lo) hh F N hat (by rw [sizeLine_eq]; omega) fun D h' tk vs F' N' l1 hl hv => ?_
  have hi : IntsAre vs (kvs.map (·.1)) := ints_of (by simpa using hl) fun j v e => by
    obtain ⟨k, x, hx, hk⟩ := hv j v e
    obtain ⟨t, rfl⟩ := Value.isInt_shape hk
    exact ⟨k, t, by simp [hx], rfl⟩
  refine ksk_lsort (D := D) (its := vs.toArray) (n := 0) (news' := fun o => (D, o) :: news) F' N' (fun o => Upd.head fun p hp => Nat.ne_of_lt (l1 p hp)) (by simp) hi (by simp; omega) fun vs' ns' c h'' F'' N'' hi' _ hperm hpw _ => ?_
  have e : ns' = (kvs.map (·.1)).reverse := lks_uniq (hperm.trans (List.reverse_perm _).symm) hpw hdesc
  subst e
  exact h D h'' tk vs' c F'' N'' l1 hi'
theorem my_dict_of {K : Type} [DecidableEq K] {knd : KeyKind prog w K} {kvs : List (K × Value)} {d : Addr} {o : Obj} (F : Fr h₀ L s.heap m) (N : News h₀ L s.heap news) (hbig : h₀.NoLimit) (hp : (d, o) ∈ news) (hd : o.IsDictOf knd kvs) (lo : (d == sysModules) = false) (hsz : kvs.length ≤ 1000)
    (h : ∀ D h' o', Fr h₀ L h' m → News h₀ L h' ((D, o') :: news) → (∀ q ∈ news, q.1 < D) → (D == sysModules) = false → o'.IsDictOf knd kvs → Q (.ref D) { s with heap := h' }) :
    wpAny (model prog w) A (call (.type "dict") [.ref d]) Q E s := by
  refine kt_call_dict lo (kda_dict N hp hd) (by rw [sizeLine_eq]; omega) fun h' hm hs => ?_
  obtain ⟨o', ho', hd'⟩ := Heap.dictOf_iff.mp hm
  have N1 := News.push F N { cls := .type "dict", data := .dict #[] }
  exact h _ h' o' ((F.push _).change hs (N1 _ (.head _)).2.1 (N1.fresh (.head _))) (N1.setHead N.apart hs ho') (fun q hq => Heap.lt_size (N q hq).1) (F.notModules (modules_low hbig)) hd'
theorem my_go_no {b fin : Bool} {Q : Bool → Shared → Prop} {p q : Value} {r : List (Value × Value)} {i : Nat} {e : Bool} (he : e = false) (h : wpAny (model prog w) A (oneLt' (b && i == 0) p q) Q (fun _ _ => False) s) : KatGo prog w A b fin Q p q r i e s := by subst he; exact kat_no h
theorem my_next {α : Type} {cmp : Nat → Nat → (Bool → Shared → Prop) → Shared → Prop} {k : Bool → KasT α} {Q : α → Shared → Prop} {b : Bool} (c : Bool) (hb : b = c) (h : KasNext cmp k Q c s) : KasNext cmp k Q b s := by subst hb; exact h
end
section
variable {prog : Program} {w : World} {A : Around} {E : Value → Shared → Prop} {s : Shared} {h₀ : Heap} {L : Addr} {m : Str → Option Value} {news : Led} {Q : Value → Shared → Prop}
set_option maxHeartbeats 0 in
set_option linter.unusedVariables false in
theorem my_sort2 (X : (hd.heap_1 w.params).In h₀) {l a1 a2 : Addr} {k1 k2 : Int} {t1 t2 : Tok} {x1 x2 : Value} {n1 n2 c : Nat} (F : Fr h₀ L s.heap m) (N : News h₀ L s.heap news) (hl : (l, listOf [.ref a1, .ref a2].toArray c) ∈ news) (h1 : (a1, tupObj [.int k1 t1, x1] n1) ∈ news) (h2 : (a2, tupObj [.int k2 t2, x2] n2) ∈ news) (hlt : k2 < k1)
    (h : ∀ D h' tk c', Fr h₀ L h' m → News h₀ L h' ((D, listOf [.ref a2, .ref a1].toArray c') :: news) → (∀ q ∈ news, q.1 < D) → Q (.ref D) { s with heap := h', toks := tk }) :
    wpAny (model prog w) A (call (.builtin "sorted") [.ref l]) Q E s := by
  k_with_none
  k_with "k_ne" => (refine neN ?_; (try dsimp only); first | with_reducible assumption | exact Ne.symm (by with_reducible assumption) | (refine Nat.ne_of_gt ?_; k_extra "lt") | (refine Nat.ne_of_lt ?_; k_extra "lt") | omega)
  k_with "lt" => first | with_reducible assumption | exact And.left (by with_reducible assumption) | exact And.left (And.right (by with_reducible assumption)) | exact And.left (And.right (And.right (by with_reducible assumption))) | exact And.left (And.right (And.right (And.right (by with_reducible assumption)))) | exact And.left (And.right (And.right (And.right (And.right (by with_reducible assumption))))) | exact And.left (And.right (And.right (And.right (And.right (And.right (by with_reducible assumption)))))) | exact And.left (And.right (And.right (And.right (And.right (And.right (And.right (by with_reducible assumption)))))))
  k_with "KatGo" => (refine my_go_no (decide_eq_false (by omega)) ?_)
  k_with "KasNext" => first | (refine my_next true (decide_eq_true (by omega)) ?_) | (refine my_next false (decide_eq_false (by omega)) ?_)
  refine kat_sorted F N (N.isList hl) (by simp) (by simp) fun D e1 h' F' N' l1 => ?_
  clear F N
  have hoff := own_lt l1
  k_steps
  rename_i F9 N9
  exact h _ _ _ _ F9 N9 l1
set_option maxHeartbeats 0 in
set_option linter.unusedVariables false in
theorem my_sort3 (X : (hd.heap_1 w.params).In h₀) {l a1 a2 a3 : Addr} {k1 k2 k3 : Int} {t1 t2 t3 : Tok} {x1 x2 x3 : Value} {n1 n2 n3 c : Nat} (F : Fr h₀ L s.heap m) (N : News h₀ L s.heap news) (hl : (l, listOf [.ref a1, .ref a2, .ref a3].toArray c) ∈ news) (h1 : (a1, tupObj [.int k1 t1, x1] n1) ∈ news) (h2 : (a2, tupObj [.int k2 t2, x2] n2) ∈ news) (h3 : (a3, tupObj [.int k3 t3, x3] n3) ∈ news) (hlt : k1 < k2) (hlt' : k3 < k1)
    (h : ∀ D h' tk c', Fr h₀ L h' m → News h₀ L h' ((D, listOf [.ref a3, .ref a1, .ref a2].toArray c') :: news) → (∀ q ∈ news, q.1 < D) → Q (.ref D) { s with heap := h', toks := tk }) :
    wpAny (model prog w) A (call (.builtin "sorted") [.ref l]) Q E s := by
  k_with_none
  k_with "k_ne" => (refine neN ?_; (try dsimp only); first | with_reducible assumption | exact Ne.symm (by with_reducible assumption) | (refine Nat.ne_of_gt ?_; k_extra "lt") | (refine Nat.ne_of_lt ?_; k_extra "lt") | omega)
  k_with "lt" => first | with_reducible assumption | exact And.left (by with_reducible assumption) | exact And.left (And.right (by with_reducible assumption)) | exact And.left (And.right (And.right (by with_reducible assumption))) | exact And.left (And.right (And.right (And.right (by with_reducible assumption)))) | exact And.left (And.right (And.right (And.right (And.right (by with_reducible assumption))))) | exact And.left (And.right (And.right (And.right (And.right (And.right (by with_reducible assumption)))))) | exact And.left (And.right (And.right (And.right (And.right (And.right (And.right (by with_reducible assumption)))))))
  k_with "KatGo" => (refine my_go_no (decide_eq_false (by omega)) ?_)
  k_with "KasNext" => first | (refine my_next true (decide_eq_true (by omega)) ?_) | (refine my_next false (decide_eq_false (by omega)) ?_)
  refine kat_sorted F N (N.isList hl) (by simp) (by simp) fun D e1 h' F' N' l1 => ?_
  clear F N
  have hoff := own_lt l1
  k_steps
  all_goals (rename_i F9 N9; exact h _ _ _ _ F9 N9 l1)
theorem sort_one {D : Addr} {x : Value} (F : Fr h₀ L s.heap m) (N : News h₀ L s.heap ((D, listOf [x].toArray 0) :: news)) (hlt : ∀ q ∈ news, q.1 < D)
    (h : ∀ h' c, Fr h₀ L h' m → News h₀ L h' ((D, listOf [x].toArray c) :: news) → Q .none { s with heap := h' }) : wpAny (model prog w) A (call (.builtin "list.sort") [.ref D]) Q E s := by
  have z := N _ (.head _)
  have hn : ∀ q ∈ news, q.1 ≠ D := fun q hq => Nat.ne_of_lt (hlt q hq)
  refine wpAny_call_entry slot_list_sort ⟨_, z.1, rfl⟩ entry_list_sort ?body (args_list_sort _)
  have ho : s.heap.get? D = some (seqObj "list" [x].toArray 0) := z.1
  rw [list_sort_plain]
  refine wpAny_bind (listItems_at ho rfl ?_)
  refine wpAny_bind (listUpdate_at ho rfl ?_ (by rw [sizeLine_eq]; exact Nat.le_of_ble_eq_true rfl) (Nat.zero_le _))
  have s1 := Heap.SameBut.update s.heap D (Obj.mapSeq fun _ => (#[] : Array Value))
  obtain ⟨e1, ho1⟩ : ∃ e1, (s.heap.update D (Obj.mapSeq fun _ => (#[] : Array Value))).get? D = some (seqObj "list" #[] e1) := ⟨_, get?_update_seq ho fun _ => #[]⟩
  have F1 := kas_fr F s1 z.2.1 z.2.2
  have N1 := news_set (pre := []) N (fun _ h => nomatch h) hn s1 ho1
  generalize s.heap.update D (Obj.mapSeq fun _ => (#[] : Array Value)) = g at F1 N1 ho1 ⊢
  refine wpAny_bind (seqEpoch_at ho1 rfl ?_)
  refine wpAny_bind (wpAny_newTuple ?_ (by rw [sizeLine_eq]; exact Nat.le_of_ble_eq_true rfl))
  refine wpAny_bind (wpAny_newList ?_ (Nat.zero_le _))
  refine wpAny_holding ?_
  have F2 := (F1.push (seqObj "tuple" [x].toArray 0)).push (seqObj "list" #[] 0)
  have N2 := N1.grown fun b y e => Heap.get?_push_of_some (seqObj "list" #[] 0) (Heap.get?_push_of_some (seqObj "tuple" [x].toArray 0) e)
  show wpAny (model prog w) _ _ _ _ { s with heap := (g.push (seqObj "tuple" [x].toArray 0)).push (seqObj "list" #[] 0) }
  generalize (g.push (seqObj "tuple" [x].toArray 0)).push (seqObj "list" #[] 0) = g2 at F2 N2 ⊢
  have z2 := N2 _ (.head _)
  refine wpAny_bind (wpAny_pure (a := general') ?_)
  refine wpAny_bind (wpAny_pure (a := ((), SortSt.mk' general' ([x].toArray.zip [x].toArray) #[] 7 none)) ?_)
  dsimp only
  refine wpAny_bind (seqEpoch_at z2.1 rfl ?_)
  have ea : (arrOf (SortSt.mk' general' ([x].toArray.zip [x].toArray) #[] 7 none)).map (·.2) = [x].toArray := by with_unfolding_all rfl
  refine wpAny_bind (listUpdate_at z2.1 rfl ?_ (Nat.zero_le _) (by rw [ea, sizeLine_eq]; exact Nat.le_of_ble_eq_true rfl))
  rw [ea, if_neg (by simp)]
  have s2 := Heap.SameBut.update g2 D (Obj.mapSeq fun _ => [x].toArray)
  obtain ⟨c2, hc2⟩ : ∃ c2, (g2.update D (Obj.mapSeq fun _ => [x].toArray)).get? D = some (seqObj "list" [x].toArray c2) := ⟨_, get?_update_seq z2.1 fun _ => [x].toArray⟩
  exact wpAny_pure ⟨_, rfl, h _ c2 (kas_fr F2 s2 z2.2.1 z2.2.2) (news_set (pre := []) N2 (fun _ h => nomatch h) hn s2 hc2)⟩
theorem my_sort1 {l : Addr} {x : Value} {c : Nat} (F : Fr h₀ L s.heap m) (N : News h₀ L s.heap news) (hl : (l, listOf [x].toArray c) ∈ news)
    (h : ∀ D h' tk c', Fr h₀ L h' m → News h₀ L h' ((D, listOf [x].toArray c') :: news) → (∀ q ∈ news, q.1 < D) → Q (.ref D) { s with heap := h', toks := tk }) :
    wpAny (model prog w) A (call (.builtin "sorted") [.ref l]) Q E s := by
  refine call_function_entry kind_sorted plain_sorted entry_sorted (args_sorted1 _) ?_
  unfold Builtin.«sorted»
  refine wpAny_bind (m := checkCount "sorted" 1 1 _) (wpAny_pure ?_)
  refine wpAny_bind (collect_list (N.isList hl) ?_ (by rw [sizeLine_eq]; exact Nat.le_of_ble_eq_true rfl))
  have hlt : ∀ q ∈ news, q.1 < s.heap.objs.size := fun q hq => Heap.lt_size (N q hq).1
  have F1 := F.push (seqObj "list" #[] 0)
  have N1 := News.push F N (seqObj "list" #[] 0) rfl
  have z := N1 _ (.head _)
  have s1 := Heap.SameBut.update (s.heap.push (seqObj "list" #[] 0)) s.heap.objs.size (Obj.mapSeq fun a => a ++ #[x])
  have F2 := kas_fr F1 s1 z.2.1 z.2.2
  have N2 := kas_news (fun p hp => N1 p (.tail _ hp)) s1 fun p hp => Nat.ne_of_lt (hlt p hp)
  show wpAny (model prog w) A.in1 _ _ E { s with heap := (s.heap.push (seqObj "list" #[] 0)).update s.heap.objs.size (Obj.mapSeq fun a => a ++ #[x]) }
  generalize (s.heap.push (seqObj "list" #[] 0)).update s.heap.objs.size (Obj.mapSeq fun a => a ++ #[x]) = g at F2 N2 ⊢
  refine wpAny_bind (wpAny_newList ?_ (by rw [sizeLine_eq]; exact Nat.le_of_ble_eq_true rfl))
  have hl2 : ∀ q ∈ news, q.1 < g.objs.size := fun q hq => Heap.lt_size (N2 q hq).1
  refine wpAny_bind (wpAny_holding (sort_one (D := g.objs.size) (x := x) (news := news) (F2.push _) (News.push F2 N2 (seqObj "list" [x].toArray 0) rfl) hl2 fun h' c' F' N' => ?_))
  exact wpAny_pure ⟨_, rfl, h _ h' _ c' F' N' hl2⟩
end
end
section
open PySem.Calls
open PyProof.Rows.LCg
section
variable {prog : Program} {w : World} {A : Around} {E : Value → Shared → Prop} {s : Shared} {env cenv : Env} {h₀ : Heap} {L : Addr} {m : Str → Option Value}
theorem co0_loop {elt target iter : Expr} {scope : Scope} {pos : Pos} {R : Result → Shared → Prop} {I D : Addr} {fp : List Addr} {n : Nat} {Pv : Nat → Value → Prop} {St : Nat → Heap → Prop} (W : Walks prog w A I fp [I] n Pv St) (hsz : n ≤ sizeLine)
    (hIo : ∀ i h, St i h → ∃ o, h.get? I = some o)
    (hgo : ∀ i (s' : Shared) v (Q' : Unit → Shared → Prop) (E' : Value → Shared → Prop), St i s'.heap → Q' () s' → wpAny (model prog w) A (letOwnedTupleGo target (.ref I) v) Q' E' s')
    (Zany : Led → Prop) (Zat : Value → Led → Prop) (hZ : ∀ v X, Zat v X → Zany X) (P : Nat → List Value → Led → Prop) (cst X₀ : Led) (adX : List Addr) (hX : ∀ X, Zany X → X.map (·.1) = adX)
    (hfp : ∀ b ∈ fp, b = I ∨ ∃ o, (b, o) ∈ cst) (hIL : I ≠ L) (hI₀ : h₀.get? I = none) (hDL : D ≠ L) (hD₀ : h₀.get? D = none) (hID : I ≠ D) (hXL : ∀ a ∈ adX, a ≠ L ∧ h₀.get? a = none ∧ a ≠ I ∧ a ≠ D) (hcst : ∀ p ∈ cst, p.1 ≠ I ∧ p.1 ≠ D ∧ p.1 ∉ adX)
    (hst : St 0 s.heap) (F : Fr h₀ L s.heap m) (N : News h₀ L s.heap ((D, lst []) :: (X₀ ++ cst))) (hZ₀ : Zany X₀) (hp : P 0 [] [])
    (hasg : ∀ i v (s' : Shared) X (oI : Obj) ys pool (Q' : Unit → Shared → Prop) (E' : Value → Shared → Prop), Pv i v → Zany X → News h₀ L s'.heap ((I, oI) :: (D, lst ys) :: (X ++ (pool ++ cst))) →
      (∀ h' tk X', Zat v X' → (∀ b o, b ∉ adX → s'.heap.get? b = some o → h'.get? b = some o) → (∀ p ∈ X', h'.get? p.1 = some p.2) → Q' () { s' with heap := h', toks := tk }) → wpAny (model prog w) A (assign target cenv v) Q' E' s')
    (turn : ∀ i v ys pool X oI h tk (E' : Value → Shared → Prop), i < n → Pv i v → P i ys pool → Zat v X → (∀ p ∈ pool, ∀ q ∈ (I, oI) :: (D, lst ys) :: X, q.1 < p.1) → Fr h₀ L h m → News h₀ L h ((I, oI) :: (D, lst ys) :: (X ++ (pool ++ cst))) →
      wpAny (model prog w) A (eval elt cenv) (fun y s'' => Stop (CoEnd h₀ L m { s with heap := h, toks := tk } ((I, oI) :: (D, lst ys) :: X) cst pool (P (i + 1) (ys ++ [y])) s'')) E' { s with heap := h, toks := tk })
    (done : ∀ ys pool X h tk, P n ys pool → Zany X → Fr h₀ L h m → News h₀ L h ((D, lst ys) :: (X ++ (pool ++ cst))) → (∀ p ∈ pool, D < p.1 ∧ ∀ a ∈ adX, a < p.1) → R (.ok .next) { s with heap := h, toks := tk }) :
    codeAny (model prog w) A (.compLoop (.ListComp elt [⟨target, iter, [], 0⟩] scope pos) 0 (.ref I) (.ref D) cenv) R s := by
  refine kcp_loop
    (fun k s' => ∃ h' tk i ys pool X, s' = { s with heap := h', toks := tk } ∧ i ≤ n ∧ k = n + 1 - i ∧ ys.length ≤ i ∧ St i h' ∧ Fr h₀ L h' m ∧ News h₀ L h' ((D, lst ys) :: (X ++ (pool ++ cst))) ∧ Zany X ∧ (∀ p ∈ pool, I < p.1 ∧ D < p.1 ∧ ∀ a ∈ adX, a < p.1) ∧ P i ys pool) ?_ (n + 1)
    ⟨s.heap, s.toks, 0, [], [], X₀, rfl, Nat.zero_le _, rfl, Nat.le_refl _, hst, F, by simpa using N, hZ₀, (fun _ h => nomatch h), hp⟩
  rintro k s' ⟨h', tk, i, ys, pool, X, rfl, hi, rfl, hyl, hst', F', N', hz, hpl, hP⟩
  have hXa : ∀ p ∈ X, p.1 ∈ adX := fun p hp => (hX X hz) ▸ List.mem_map_of_mem hp
  have offI : ∀ p ∈ (D, lst ys) :: (X ++ (pool ++ cst)), p.1 ≠ I := fun p hp => by
    rcases List.mem_cons.mp hp with rfl | hp
    · exact Ne.symm hID
    · rcases List.mem_append.mp hp with hp | hp
      · exact (hXL _ (hXa p hp)).2.2.1
      · rcases List.mem_append.mp hp with hp | hp
        · exact Nat.ne_of_gt (hpl p hp).1
        · exact (hcst p hp).1
  have next : ∀ h₁ : Heap, (∀ b o, b ∉ [I] → h'.get? b = some o → h₁.get? b = some o) → Fr h₀ L h₁ m ∧ News h₀ L h₁ ((D, lst ys) :: (X ++ (pool ++ cst))) := fun h₁ hk => by
    refine ⟨⟨F'.ns.at' fun o e => hk _ o (by simpa using Ne.symm hIL) e, fun b o e => hk b o ?_ (F'.keep b o e), F'.above⟩, fun p hp => ⟨hk _ _ (by simpa using offI p hp) (N' p hp).1, (N' p hp).2⟩⟩
    intro hb
    rw [List.mem_singleton.mp hb, hI₀] at e
    cases e
  by_cases hlt : i < n
  · refine W.item i _ _ _ hlt hst' fun v h₁ tk₁ hPv hst₁ hk₁ => ?_
    obtain ⟨F₁, N₁⟩ := next h₁ hk₁
    obtain ⟨oI, hoI⟩ := hIo _ _ hst₁
    have N₂ : News h₀ L h₁ ((I, oI) :: (D, lst ys) :: (X ++ (pool ++ cst))) := fun p hp => by
      rcases List.mem_cons.mp hp with rfl | hp
      · exact ⟨hoI, hIL, hI₀⟩
      · exact N₁ p hp
    refine hgo (i + 1) _ v _ _ hst₁ ?_
    refine hasg i v _ X oI ys pool _ _ hPv hz N₂ fun h₂ tk₂ X' hz' hk₂ hX' => ?_
    have hXa' : ∀ p ∈ X', p.1 ∈ adX := fun p hp => (hX X' (hZ _ _ hz')) ▸ List.mem_map_of_mem hp
    have F₂ : Fr h₀ L h₂ m := ⟨F₁.ns.at' fun o e => hk₂ _ o (fun q => (hXL _ q).1 rfl) e, fun b o e => hk₂ b o (fun q => by rw [(hXL _ q).2.1] at e; cases e) (F₁.keep b o e), F₁.above⟩
    have N₃ : News h₀ L h₂ ((I, oI) :: (D, lst ys) :: (X' ++ (pool ++ cst))) := fun p hp => by
      rcases List.mem_cons.mp hp with rfl | hp
      · exact ⟨hk₂ _ _ (fun q => (hXL _ q).2.2.1 rfl) hoI, hIL, hI₀⟩
      · rcases List.mem_cons.mp hp with rfl | hp
        · exact ⟨hk₂ _ _ (fun q => (hXL _ q).2.2.2 rfl) (N₁ _ (.head _)).1, hDL, hD₀⟩
        · rcases List.mem_append.mp hp with hp | hp
          · exact ⟨hX' p hp, (hXL _ (hXa' p hp)).1, (hXL _ (hXa' p hp)).2.1⟩
          · have z := N₁ p (.tail _ (List.mem_append.mpr (.inr hp)))
            refine ⟨hk₂ _ _ ?_ z.1, z.2⟩
            rcases List.mem_append.mp hp with hp | hp
            · exact fun q => Nat.lt_irrefl _ ((hpl p hp).2.2 _ q)
            · exact (hcst p hp).2.2
    have hord : ∀ p ∈ pool, ∀ q ∈ (I, oI) :: (D, lst ys) :: X', q.1 < p.1 := fun p hp q hq => by
      rcases List.mem_cons.mp hq with rfl | hq
      · exact (hpl p hp).1
      · rcases List.mem_cons.mp hq with rfl | hq
        · exact (hpl p hp).2.1
        · exact (hpl p hp).2.2 _ (hXa' q hq)
    have hst₂ : St (i + 1) h₂ := W.frame _ _ _ hst₁ fun b hb o e => by
      rcases hfp b hb with rfl | ⟨ob, hob⟩
      · exact hk₂ _ _ (fun q => (hXL _ q).2.2.1 rfl) e
      · exact hk₂ _ _ (hcst _ hob).2.2 e
    refine wpAny_mono (turn i v ys pool X' oI h₂ tk₂ _ hlt hPv hP hz' hord F₂ N₃) (fun y s₄ h₄ => ?_) fun _ _ e => e
    have step : ∀ (s₄ : Shared) (Pn : Led → Prop), CoEnd h₀ L m { s with heap := h₂, toks := tk₂ } ((I, oI) :: (D, lst ys) :: X') cst pool Pn s₄ →
        ∃ h₄ tk₄ pool', s₄ = { s with heap := h₄, toks := tk₄ } ∧ St (i + 1) h₄ ∧ Fr h₀ L h₄ m ∧ News h₀ L h₄ ((D, lst ys) :: (X' ++ (pool' ++ cst))) ∧ (∀ p ∈ pool', I < p.1 ∧ D < p.1 ∧ ∀ a ∈ adX, a < p.1) ∧ Pn pool' := by
      rintro s₄ Pn ⟨h₄, tk₄, pool', rfl, F₄, N₄, ha, hPn⟩
      refine ⟨h₄, tk₄, pool', rfl, ?_, F₄, fun p hp => N₄ p (.tail _ hp), fun p hp => ?_, hPn⟩
      · refine W.frame _ _ _ hst₂ fun b hb o e => ?_
        rcases hfp b hb with rfl | ⟨ob, hob⟩
        · have e1 : h₂.get? b = some oI := (N₃ _ (.head _)).1
          rw [e1] at e
          cases e
          exact (N₄ _ (.head _)).1
        · have e1 : h₂.get? b = some ob := (N₃ (b, ob) (.tail _ (.tail _ (List.mem_append.mpr (.inr (List.mem_append.mpr (.inr hob))))))).1
          rw [e1] at e
          rw [← Option.some.inj e]
          exact (N₄ (b, ob) (.tail _ (.tail _ (List.mem_append.mpr (.inr (List.mem_append.mpr (.inr hob))))))).1
      · rcases ha p hp with ⟨q, hq, e⟩ | hq
        · rw [← e]
          exact hpl q hq
        · refine ⟨hq (I, oI) (.head _), hq (D, lst ys) (.tail _ (.head _)), fun a haX => ?_⟩
          rw [← hX X' (hZ _ _ hz')] at haX
          obtain ⟨q, hqX, rfl⟩ := List.mem_map.mp haX
          exact hq q (.tail _ (.tail _ hqX))
    obtain ⟨h₄, tk₄, pool', rfl, hst₄, F₄, N₄, hpl', hPn⟩ := step _ _ h₄
    have zD := (N₄ (D, lst ys) (.head _)).1
    refine append_at (hsz := by show ys.toArray.size ≤ sizeLine; rw [List.size_toArray]; exact Nat.le_trans (Nat.le_trans hyl hi) hsz) zD fun h₅ hs₅ hD₅ => ?_
    refine ⟨n + 1 - (i + 1), by omega, h₅, tk₄, i + 1, ys ++ [y], pool', X', rfl, hlt, rfl, by rw [List.length_append, List.length_singleton]; exact Nat.succ_le_succ hyl, ?_, F₄.change hs₅ hDL hD₀, fun p hp => ?_, hZ _ _ hz', hpl', hPn⟩
    · refine W.frame _ _ _ hst₄ fun b hb o e => hs₅.extBut b o ?_ e
      rcases hfp b hb with rfl | ⟨ob, hob⟩
      · exact hID
      · exact (hcst _ hob).2.1
    · rcases List.mem_cons.mp hp with rfl | hp
      · exact ⟨hD₅.trans (congrArg some (lst_snoc ys y)), hDL, hD₀⟩
      · have z := N₄ p (.tail _ hp)
        refine ⟨hs₅.extBut _ _ ?_ z.1, z.2⟩
        rcases List.mem_append.mp hp with hp | hp
        · exact (hXL _ (hXa' p hp)).2.2.2
        · rcases List.mem_append.mp hp with hp | hp
          · exact Nat.ne_of_gt (hpl' p hp).2.1
          · exact (hcst p hp).2.1
  · obtain rfl : i = n := Nat.le_antisymm hi (Nat.not_lt.mp hlt)
    refine W.done _ _ _ hst' fun h₂ tk₂ hk₂ => ?_
    obtain ⟨F₂, N₂⟩ := next h₂ hk₂
    exact done ys pool X h₂ tk₂ hP hz F₂ N₂ fun p hp => (hpl p hp).2

def CoGo0 (prog : Program) (w : World) (A : Around) (E : Value → Shared → Prop) (use : Option (Value → Sem Unit)) (Q : Value → Shared → Prop) (elt target iter : Expr) (scope : Scope) (cl : List (Str × Addr)) (pos : Pos) (env : Env) (x : Value) (s₁ : Shared) : Prop :=
  wpAny (model prog w) A (pyIter x) (fun it s₂ => wpAny (model prog w) A (newList []) (fun acc s₃ => wpAny (model prog w) A (newFunctionEnv scope env.globals cl [] env.qual none .none (some env)) (fun cenv s₄ =>
    codeAny (model prog w) A (.compStart (.ListComp elt [⟨target, iter, [], 0⟩] scope pos) 0 it acc { cenv with scope := relabel scope env }) (compPost (model prog w) A E use Q acc cenv.locals) s₄) E s₃) E s₂) E s₁
theorem co0_eval {elt target iter : Expr} {scope : Scope} {cl : List (Str × Addr)} {pos : Pos} {Q : Value → Shared → Prop} (hclos : closureFor scope env = pure cl) (hkind : scope.kind = .function) (hnames : ∀ y ∈ scope.names, y.2 = .local → scope.names.lookup y.1 = some .local)
    (h : wpAny (model prog w) A (eval iter env) (fun x s₁ => Stop (CoGo0 prog w A E none Q elt target iter scope cl pos env x s₁)) E s) (hs : ∀ x, foldedSetIterable iter env x = pure x := by intro _; rfl) :
    wpAny (model prog w) A (eval (.ListComp elt [⟨target, iter, [], 0⟩] scope pos) env) Q E s := by
  rw [eval_ListComp]
  exact wpAny_comprehension_free (use := none) rfl hs hclos hkind hnames h
theorem co0_block {elt target iter : Expr} {scope : Scope} {cl : List (Str × Addr)} {pos : Pos} {RR : Value → Addr → Result → Shared → Prop} {I : Addr} {fp : List Addr} {n : Nat} {Pv : Nat → Value → Prop} {St : Nat → Heap → Prop} (W : Walks prog w A I fp [I] n Pv St) (hsz : n ≤ sizeLine)
    (hcell : ∀ y ∈ scope.names, y.2 ≠ .cell) (hkind : scope.kind = .function) (hIo : ∀ i h, St i h → ∃ o, h.get? I = some o)
    (hgo : ∀ i (s' : Shared) v (Q' : Unit → Shared → Prop) (E' : Value → Shared → Prop), St i s'.heap → Q' () s' → wpAny (model prog w) A (letOwnedTupleGo target (.ref I) v) Q' E' s')
    (B : Value → (Str → Option Value) → Prop) (P : Nat → List Value → Led → Prop) (cst : Led)
    (hfp : ∀ b ∈ fp, b = I ∨ ∃ o, (b, o) ∈ cst) (hIL : I ≠ L) (hI₀ : h₀.get? I = none) (hcst : ∀ p ∈ cst, p.1 ≠ I) (hst : St 0 s.heap) (F : Fr h₀ L s.heap m) (N : News h₀ L s.heap cst) (hp : P 0 [] [])
    (hasg : ∀ C i v (s' : Shared) mC (Q' : Unit → Shared → Prop) (E' : Value → Shared → Prop), Pv i v → s'.heap.Ns C mC → (∀ p ∈ cst, s'.heap.get? p.1 = some p.2) →
      (∀ h' tk mC', (∀ b o, b ≠ C → s'.heap.get? b = some o → h'.get? b = some o) → h'.Ns C mC' → B v mC' → Q' () { s' with heap := h', toks := tk }) → wpAny (model prog w) A (assign target (compEnvC scope cl C env) v) Q' E' s')
    (turn : ∀ i v ys pool oI D C oC mC h tk (E' : Value → Shared → Prop), i < n → Pv i v → P i ys pool → NsObj oC mC → B v mC → I < D → D < C → (∀ p ∈ cst, p.1 < D) → (∀ p ∈ pool, C < p.1) → Fr h₀ L h m → News h₀ L h ((I, oI) :: (D, lst ys) :: (C, oC) :: (pool ++ cst)) →
      wpAny (model prog w) A (eval elt (compEnvC scope cl C env)) (fun y s'' => Stop (CoEnd h₀ L m { s with heap := h, toks := tk } [(I, oI), (D, lst ys), (C, oC)] cst pool (P (i + 1) (ys ++ [y])) s'')) E' { s with heap := h, toks := tk })
    (hRR : ∀ D C oC mC ys pool h tk, P n ys pool → NsObj oC mC → C ≠ L → D ≠ L → (∀ p ∈ cst, p.1 < D) → (∀ p ∈ pool, D < p.1 ∧ C < p.1) → D < C → h₀.get? C = none → h₀.get? D = none → Fr h₀ L h m → News h₀ L h ((D, lst ys) :: (C, oC) :: (pool ++ cst)) → RR (.ref D) C (.ok .next) { s with heap := h, toks := tk }) :
    wpAny (model prog w) A (newList []) (fun acc s₃ => wpAny (model prog w) A (newFunctionEnv scope env.globals cl [] env.qual none .none (some env)) (fun cenv s₄ =>
      codeAny (model prog w) A (.compStart (.ListComp elt [⟨target, iter, [], 0⟩] scope pos) 0 (.ref I) acc { cenv with scope := relabel scope env }) (RR acc cenv.locals) s₄) E s₃) E s := by
  refine wpAny_newObj_type (wpAny_newFunctionEnv hcell (by intro y hy; simp at hy) (fun h₁ hns₁ hsb₁ => ?_) hkind)
  dsimp only at hns₁ hsb₁ ⊢
  generalize hH2 : s.heap.push { cls := .type "list", dict := none, data := .seq ([] : List Value).toArray } = H2 at hns₁ hsb₁ ⊢
  have hC : H2.objs.size = s.heap.objs.size + 1 := by rw [← hH2, Heap.size_push]
  have hDC : s.heap.objs.size < H2.objs.size := by rw [hC]; exact Nat.lt_succ_self _
  obtain ⟨oI₀, hoI₀⟩ := hIo _ _ hst
  have hIlt : I < s.heap.objs.size := Heap.lt_size hoI₀
  have hLlt : L < s.heap.objs.size := F.ns.lt
  have clt : ∀ p ∈ cst, p.1 < s.heap.objs.size := fun p hp => Heap.lt_size (N p hp).1
  have old : ∀ b o, s.heap.get? b = some o → h₁.get? b = some o := fun b o e => by
    have hb := Heap.lt_size e
    exact hsb₁.extBut b o (Nat.ne_of_lt (Nat.lt_trans hb hDC)) (Heap.get?_push_of_some _ (hH2 ▸ Heap.get?_push_of_some _ e))
  have hacc : h₁.get? s.heap.objs.size = some (lst []) := hsb₁.extBut _ _ (Nat.ne_of_lt hDC) (Heap.get?_push_of_some _ (hH2 ▸ Heap.get?_push_size _ rfl))
  have fresh₀ : ∀ a, s.heap.objs.size ≤ a → h₀.get? a = none := fun a ha => by
    cases e : h₀.get? a with
    | none => rfl
    | some o' => exact absurd (Heap.lt_size (F.keep a o' e)) (Nat.not_lt.mpr ha)
  have hfpl : ∀ b ∈ fp, b < s.heap.objs.size := fun b hb => by
    rcases hfp b hb with rfl | ⟨o, ho⟩
    · exact hIlt
    · exact clt _ ho
  have hst₁ : St 0 h₁ := W.frame _ _ _ hst fun b _ o e => old b o e
  obtain ⟨oC, heC, hoC⟩ := ns_obj hns₁
  have hCL : H2.objs.size ≠ L := Nat.ne_of_gt (Nat.lt_trans hLlt hDC)
  have hC₀ : h₀.get? H2.objs.size = none := fresh₀ _ (Nat.le_of_lt hDC)
  have loop : ∀ s₃ : Shared, s₃ = { s with heap := h₁, toks := s.toks + ([] : List (Str × Value)).length } →
      codeAny (model prog w) A (.compLoop (.ListComp elt [⟨target, iter, [], 0⟩] scope pos) 0 (.ref I) (.ref s.heap.objs.size) (compEnvC scope cl H2.objs.size env)) (RR (.ref s.heap.objs.size) H2.objs.size) s₃ := by
    rintro s₃ rfl
    refine co0_loop (h₀ := h₀) (L := L) (m := m) (cenv := compEnvC scope cl H2.objs.size env) W hsz hIo hgo (ZAny H2.objs.size) (ZAt B H2.objs.size) (fun v X ⟨o, mm, e, h, _⟩ => ⟨o, mm, e, h⟩) P cst [(H2.objs.size, oC)] [H2.objs.size] (fun X ⟨o, mm, e, _⟩ => by rw [e]; rfl)
      hfp hIL hI₀ (Nat.ne_of_gt hLlt) (fresh₀ _ (Nat.le_refl _)) (Nat.ne_of_lt hIlt) ?_ ?_ hst₁ (F.keeps old) ?_ ⟨oC, _, rfl, hoC⟩ hp ?_ ?_ ?_
    · intro a ha
      rw [List.mem_singleton.mp ha]
      exact ⟨hCL, hC₀, Nat.ne_of_gt (Nat.lt_trans hIlt hDC), Nat.ne_of_gt hDC⟩
    · intro p hp
      refine ⟨hcst p hp, Nat.ne_of_lt (clt p hp), fun q => ?_⟩
      have := clt p hp
      rw [List.mem_singleton.mp q] at this
      exact Nat.lt_irrefl _ (Nat.lt_trans hDC this)
    · intro p hp
      rcases List.mem_cons.mp hp with rfl | hp
      · exact ⟨hacc, Nat.ne_of_gt hLlt, fresh₀ _ (Nat.le_refl _)⟩
      · rcases List.mem_cons.mp hp with rfl | hp
        · exact ⟨heC, hCL, hC₀⟩
        · exact ⟨old _ _ (N p hp).1, (N p hp).2⟩
    · rintro i v s' X oI ys pool Q' E' hPv ⟨oC', mC, rfl, hns⟩ N' k
      have zC : s'.heap.get? H2.objs.size = some oC' := (N' _ (.tail _ (.tail _ (.head _)))).1
      refine hasg _ i v s' mC Q' E' hPv (hns.ns zC) (fun p hp => (N' p (List.mem_cons_of_mem _ (List.mem_cons_of_mem _ (List.mem_append.mpr (.inr (List.mem_append.mpr (.inr hp))))))).1) fun h' tk mC' hk hn' hB => ?_
      obtain ⟨oC2, heC2, hoC2⟩ := ns_obj hn'
      refine k h' tk [(H2.objs.size, oC2)] ⟨oC2, mC', rfl, hoC2, hB⟩ (fun b o hb e => hk b o (fun q => hb (by rw [q]; exact .head _)) e) fun p hp => ?_
      rw [List.mem_singleton.mp hp]
      exact heC2
    · rintro i v ys pool X oI h tk E' hi hPv hP ⟨oC', mC, rfl, hns, hB⟩ hord F' N'
      exact turn i v ys pool oI _ _ oC' mC h tk E' hi hPv hP hns hB hIlt hDC clt (fun p hp => hord p hp (_, oC') (.tail _ (.tail _ (.head _)))) F' N'
    · rintro ys pool X h tk hP ⟨oC', mC, rfl, hns⟩ F' N' hpl
      exact hRR _ _ oC' mC ys pool h tk hP hns hCL (Nat.ne_of_gt hLlt) clt (fun p hp => ⟨(hpl p hp).1, (hpl p hp).2 _ (.head _)⟩) hDC hC₀ (fresh₀ _ (Nat.le_refl _)) F' N'
  exact codeAny_compStart_list (loop _ rfl) (W.self 0 _ _ _ hst₁ (loop _ rfl))
end

section
variable {prog : Program} {w : World} {A : Around} {E : Value → Shared → Prop} {s : Shared} {env : Env} {h₀ : Heap} {L : Addr} {m : Str → Option Value}
theorem co0_seq {elt target iter : Expr} {scope : Scope} {cl : List (Str × Addr)} {pos : Pos} {RR : Value → Addr → Result → Shared → Prop} {l : Addr} {ol : Obj} {vs : List Value} {k : Nat} (isL : ol.cls = .type "list" ∨ ol.cls = .type "tuple") (hd : ol.data = .seq vs.toArray k) (hsz : vs.length ≤ sizeLine)
    (hcell : ∀ y ∈ scope.names, y.2 ≠ .cell) (hkind : scope.kind = .function) (hh : A.handled = none)
    (B : Value → (Str → Option Value) → Prop) (P : Nat → List Value → Led → Prop) (cst : Led) (hl : (l, ol) ∈ cst) (F : Fr h₀ L s.heap m) (N : News h₀ L s.heap cst) (hp : P 0 [] [])
    (hasg : ∀ (C : Addr) (i : Nat) (v : Value) (s' : Shared) mC (Q' : Unit → Shared → Prop) (E' : Value → Shared → Prop), vs[i]? = some v → s'.heap.Ns C mC → (∀ p ∈ cst, s'.heap.get? p.1 = some p.2) →
      (∀ h' tk mC', (∀ b o, b ≠ C → s'.heap.get? b = some o → h'.get? b = some o) → h'.Ns C mC' → B v mC' → Q' () { s' with heap := h', toks := tk }) → wpAny (model prog w) A (assign target (compEnvC scope cl C env) v) Q' E' s')
    (turn : ∀ i v ys pool I oI D C oC mC h tk (E' : Value → Shared → Prop), vs[i]? = some v → P i ys pool → NsObj oC mC → B v mC → I < D → D < C → (∀ p ∈ cst, p.1 < I) → (∀ p ∈ pool, C < p.1) → Fr h₀ L h m → News h₀ L h ((I, oI) :: (D, lst ys) :: (C, oC) :: (pool ++ cst)) →
      wpAny (model prog w) A (eval elt (compEnvC scope cl C env)) (fun y s'' => Stop (CoEnd h₀ L m { s with heap := h, toks := tk } [(I, oI), (D, lst ys), (C, oC)] cst pool (P (i + 1) (ys ++ [y])) s'')) E' { s with heap := h, toks := tk })
    (hRR : ∀ D C oC mC ys pool h tk, P vs.length ys pool → NsObj oC mC → C ≠ L → D ≠ L → (∀ p ∈ cst, p.1 < D) → (∀ p ∈ pool, D < p.1 ∧ C < p.1) → D < C → h₀.get? C = none → h₀.get? D = none → Fr h₀ L h m → News h₀ L h ((D, lst ys) :: (C, oC) :: (pool ++ cst)) → RR (.ref D) C (.ok .next) { s with heap := h, toks := tk }) :
    wpAny (model prog w) A (pyIter (.ref l)) (fun it s₂ => wpAny (model prog w) A (newList []) (fun acc s₃ => wpAny (model prog w) A (newFunctionEnv scope env.globals cl [] env.qual none .none (some env)) (fun cenv s₄ =>
      codeAny (model prog w) A (.compStart (.ListComp elt [⟨target, iter, [], 0⟩] scope pos) 0 it acc { cenv with scope := relabel scope env }) (RR acc cenv.locals) s₄) E s₃) E s₂) E s := by
  have hol : s.heap.get? l = some ol := (N _ hl).1
  have hne : l ≠ s.heap.objs.size := Nat.ne_of_lt (Heap.lt_size hol)
  have hI0 : h₀.get? s.heap.objs.size = none := next_is_new F
  have hIL : s.heap.objs.size ≠ L := Nat.ne_of_gt F.ns.lt
  have clt : ∀ p ∈ cst, p.1 < s.heap.objs.size := fun p hp => Heap.lt_size (N p hp).1
  have hoff : ∀ p ∈ cst, p.1 ≠ s.heap.objs.size := fun p hp => Nat.ne_of_lt (clt p hp)
  have hfp : ∀ b ∈ [s.heap.objs.size, l], b = s.heap.objs.size ∨ ∃ o, (b, o) ∈ cst := fun b hb => by
    rcases List.mem_cons.mp hb with rfl | hb
    · exact .inl rfl
    · rw [List.mem_singleton.mp hb]
      exact .inr ⟨ol, hl⟩
  rcases isL with hc | hc
  · have hls : s.heap.IsList l vs.toArray := ⟨ol, hol, hc, k, hd⟩
    refine wpAny_pyIter_list hls ?_
    have W := Walks.list (prog := prog) (w := w) hh s.heap.objs.size l hne vs.toArray
    rw [List.size_toArray] at W
    exact co0_block (s := { s with heap := s.heap.push _ }) W hsz hcell hkind (fun i h st => by obtain ⟨o, e, _⟩ := st.1; exact ⟨o, e⟩) (fun i s' v Q' E' st hq => letGo_listiter st.1 hq) B P cst hfp hIL hI0 hoff ⟨⟨_, Heap.get?_push_size _ rfl, rfl, rfl⟩, hls.push _⟩ (F.push _)
      (fun p hp => ⟨Heap.get?_push_of_some _ (N p hp).1, (N p hp).2⟩) hp (fun C i v s' mC Q' E' hv => hasg C i v s' mC Q' E' (by simpa using hv))
      (fun i v ys pool oI D C oC mC h tk E' _ hv hP hns hB h1 h2 _ h4 F' N' => turn i v ys pool _ oI D C oC mC h tk E' (by simpa using hv) hP hns hB h1 h2 clt h4 F' N') hRR
  · have hls : s.heap.IsTuple l vs.toArray := ⟨ol, hol, hc, k, hd⟩
    refine wpAny_pyIter_tuple hls ?_
    have W := Walks.tuple (prog := prog) (w := w) hh s.heap.objs.size l hne vs.toArray
    rw [List.size_toArray] at W
    exact co0_block (s := { s with heap := s.heap.push _ }) W hsz hcell hkind (fun i h st => by obtain ⟨o, e, _⟩ := st.1; exact ⟨o, e⟩) (fun i s' v Q' E' st hq => letGo_tupleiter st.1 hq) B P cst hfp hIL hI0 hoff ⟨⟨_, Heap.get?_push_size _ rfl, rfl, rfl⟩, hls.at fun o e => Heap.get?_push_of_some _ e⟩ (F.push _)
      (fun p hp => ⟨Heap.get?_push_of_some _ (N p hp).1, (N p hp).2⟩) hp (fun C i v s' mC Q' E' hv => hasg C i v s' mC Q' E' (by simpa using hv))
      (fun i v ys pool oI D C oC mC h tk E' _ hv hP hns hB h1 h2 _ h4 F' N' => turn i v ys pool _ oI D C oC mC h tk E' (by simpa using hv) hP hns hB h1 h2 clt h4 F' N') hRR

theorem co0_range {elt iter : Expr} {x : Str} {px : Pos} {scope : Scope} {cl : List (Str × Addr)} {pos : Pos} {RR : Value → Addr → Result → Shared → Prop} {r : Addr} {a b : Int} {t u v : Tok} {n : Nat} (hr : IsRange s.heap r a b 1 t u v) (hsm : Builtin.Range.small a b 1 = true) (hn : Builtin.Range.rangeSize a b 1 = (n : Int)) (hsz : n ≤ sizeLine)
    (hcell : ∀ y ∈ scope.names, y.2 ≠ .cell) (hkind : scope.kind = .function) (hx : scope.names.lookup x = some .local) (hh : A.handled = none)
    (P : Nat → List Value → Led → Prop) (cst : Led) (F : Fr h₀ L s.heap m) (N : News h₀ L s.heap cst) (hp : P 0 [] [])
    (turn : ∀ i tv ys pool I oI D C oC mC h tk (E' : Value → Shared → Prop), i < n → P i ys pool → NsObj oC mC → mC x = some (.int (a + (i : Int)) tv) → I < D → D < C → (∀ p ∈ cst, p.1 < I) → (∀ p ∈ pool, C < p.1) → Fr h₀ L h m → News h₀ L h ((I, oI) :: (D, lst ys) :: (C, oC) :: (pool ++ cst)) →
      wpAny (model prog w) A (eval elt (compEnvC scope cl C env)) (fun y s'' => Stop (CoEnd h₀ L m { s with heap := h, toks := tk } [(I, oI), (D, lst ys), (C, oC)] cst pool (P (i + 1) (ys ++ [y])) s'')) E' { s with heap := h, toks := tk })
    (hRR : ∀ D C oC mC ys pool h tk, P n ys pool → NsObj oC mC → C ≠ L → D ≠ L → (∀ p ∈ cst, p.1 < D) → (∀ p ∈ pool, D < p.1 ∧ C < p.1) → D < C → h₀.get? C = none → h₀.get? D = none → Fr h₀ L h m → News h₀ L h ((D, lst ys) :: (C, oC) :: (pool ++ cst)) → RR (.ref D) C (.ok .next) { s with heap := h, toks := tk }) :
    wpAny (model prog w) A (pyIter (.ref r)) (fun it s₂ => wpAny (model prog w) A (newList []) (fun acc s₃ => wpAny (model prog w) A (newFunctionEnv scope env.globals cl [] env.qual none .none (some env)) (fun cenv s₄ =>
      codeAny (model prog w) A (.compStart (.ListComp elt [⟨.Name x px, iter, [], 0⟩] scope pos) 0 it acc { cenv with scope := relabel scope env }) (RR acc cenv.locals) s₄) E s₃) E s₂) E s := by
  have hI0 : h₀.get? s.heap.objs.size = none := next_is_new F
  have hIL : s.heap.objs.size ≠ L := Nat.ne_of_gt F.ns.lt
  have clt : ∀ p ∈ cst, p.1 < s.heap.objs.size := fun p hp => Heap.lt_size (N p hp).1
  have hoff : ∀ p ∈ cst, p.1 ≠ s.heap.objs.size := fun p hp => Nat.ne_of_lt (clt p hp)
  refine wpAny_pyIter_range hr hsm ?_
  have W := Walks.range (prog := prog) (w := w) hh s.heap.objs.size a 1 n
  refine co0_block (s := { s with heap := s.heap.push _ }) W hsz hcell hkind (fun i h st => ⟨_, st⟩) (fun i s' v Q' E' st hq => wpAny_pure hq) (BName x) P cst (fun b hb => .inl (List.mem_singleton.mp hb)) hIL hI0 hoff
    (by show IsRangeIter _ _ _ _ _; rw [hn]; simpa using Heap.get?_push_size _ rfl) (F.push _) (fun p hp => ⟨Heap.get?_push_of_some _ (N p hp).1, (N p hp).2⟩) hp (co_name hx hkind) ?_ hRR
  rintro i v ys pool oI D C oC mC h tk E' hi ⟨tv, rfl⟩ hP hns hB h1 h2 _ h4 F' N'
  refine turn i tv ys pool _ oI D C oC mC h tk E' hi hP hns ?_ h1 h2 clt h4 F' N'
  unfold BName at hB
  rwa [Int.mul_one] at hB

end
end
section
open PySem.Calls
def chkOk (bits : Int) (x : Str) (a b : Int) : Prop := x = Str.ofString "mask" ∧ 0 ≤ b ∧ b ≤ 1 * 2 ^ bits.toNat - 1 ∧ Builtin.bitAnd a b = a ∨ x = Str.ofString "range" ∧ 0 ≤ a ∧ a ≤ b ∧ b ≤ 1 * 2 ^ bits.toNat - 1
section
set_option maxHeartbeats 0 in
theorem check_wish_does (w : World) (news : Led) (v : Value) (x : Str) (a b bits : Int) (tb : Tok) (hb0 : 0 ≤ bits) (hb48 : bits ≤ 48) (hc : chkOk bits x a b) (hD : DatIn news v (.tuple [.str x, .int a, .int b])) :
   Does w 1 20 135 news [v, .int bits tb] (fun r news' => r = .none ∧ ∃ tl, news' = tl ++ news) := by
  k_with_none
  k_with "k_ne" => (refine neN ?_; (try dsimp only); first | with_reducible assumption | exact Ne.symm (by with_reducible assumption) | (refine Nat.ne_of_gt ?_; k_extra "lt") | (refine Nat.ne_of_lt ?_; k_extra "lt") | omega)
  k_with "lt" => first | with_reducible assumption | exact And.left (by with_reducible assumption) | exact And.left (And.right (by with_reducible assumption)) | exact And.left (And.right (And.right (by with_reducible assumption))) | exact And.left (And.right (And.right (And.right (by with_reducible assumption)))) | exact And.left (And.right (And.right (And.right (And.right (by with_reducible assumption))))) | exact And.left (And.right (And.right (And.right (And.right (And.right (by with_reducible assumption)))))) | exact And.left (And.right (And.right (And.right (And.right (And.right (And.right (by with_reducible assumption)))))))
  k_with "testChain" => (k_dflt (first | refine test_link ?_ | refine test_last ?_))
  k_with "exec Raise some none" => (exfalso; first | contradiction | omega | simp_all)
  obtain ⟨t, n, t1, t2, t3, rfl, hm⟩ := wish_inv hD
  rcases hc with ⟨rfl, h1, h2, h3⟩ | ⟨rfl, h1, h2, h3⟩
  ·
    unfold Does
    k_fill
    intro mean mg mb dp un gd cn cs fa ccd cl outer A₀ base h₀ L m s Q E B F X N T hk hd hu hret
    refine wpAny_call ?_
    k_dflt ktr_enter
    k_steps
    exact hret _ _ _ _ (by k_asm) (by k_asm) ⟨rfl, [_], rfl⟩
  ·
    unfold Does
    k_fill
    intro mean mg mb dp un gd cn cs fa ccd cl outer A₀ base h₀ L m s Q E B F X N T hk hd hu hret
    refine wpAny_call ?_
    k_dflt ktr_enter
    k_steps
    exact hret _ _ _ _ (by k_asm) (by k_asm) ⟨rfl, [_], rfl⟩
end
end
section
open PySem.Calls
def ActIn (news : Led) (v : Value) : Prop := (∃ t, v = .str (Str.ofString "let") t) ∨ (∃ t, v = .str (Str.ofString "drop") t) ∨ ∃ a n t1 t2, v = .ref a ∧ (a, tupObj [.str (Str.ofString "mark") t1, .int 3 t2] n) ∈ news
theorem ActIn.mono {n1 n2 : Led} {v : Value} (h : ActIn n1 v) (hs : ∀ p ∈ n1, p ∈ n2) : ActIn n2 v := h.imp id fun h => h.imp id fun ⟨a, n, t1, t2, e, hm⟩ => ⟨a, n, t1, t2, e, hs _ hm⟩
section
set_option maxHeartbeats 0 in
theorem is_action_does (w : World) (news : Led) (v : Value) (hv : ActIn news v) :
   Does w 1 20 142 news [v] (fun r news' => r = .bool true ∧ ∃ tl, news' = tl ++ news) := by
  k_with_none
  k_with "k_ne" => (refine neN ?_; (try dsimp only); first | with_reducible assumption | exact Ne.symm (by with_reducible assumption) | (refine Nat.ne_of_gt ?_; k_extra "lt") | (refine Nat.ne_of_lt ?_; k_extra "lt") | omega)
  k_with "lt" => first | with_reducible assumption | exact And.left (by with_reducible assumption) | exact And.left (And.right (by with_reducible assumption)) | exact And.left (And.right (And.right (by with_reducible assumption))) | exact And.left (And.right (And.right (And.right (by with_reducible assumption)))) | exact And.left (And.right (And.right (And.right (And.right (by with_reducible assumption))))) | exact And.left (And.right (And.right (And.right (And.right (And.right (by with_reducible assumption)))))) | exact And.left (And.right (And.right (And.right (And.right (And.right (And.right (by with_reducible assumption)))))))
  k_with "testChain" => (k_dflt (first | refine test_link ?_ | refine test_last ?_))
  rcases hv with ⟨t, rfl⟩ | ⟨t, rfl⟩ | ⟨t, n, t1, t2, rfl, hm⟩
  ·
    unfold Does
    k_fill
    intro mean mg mb dp un gd cn cs fa ccd cl outer A₀ base h₀ L m s Q E B F X N T hk hd hu hret
    refine wpAny_call ?_
    k_dflt ktr_enter
    k_steps
    exact hret _ _ _ _ (by k_asm) (by k_asm) ⟨congrArg Value.bool (by decide +kernel), [_], rfl⟩
  ·
    unfold Does
    k_fill
    intro mean mg mb dp un gd cn cs fa ccd cl outer A₀ base h₀ L m s Q E B F X N T hk hd hu hret
    refine wpAny_call ?_
    k_dflt ktr_enter
    k_steps
    exact hret _ _ _ _ (by k_asm) (by k_asm) ⟨congrArg Value.bool (by decide +kernel), [_], rfl⟩
  ·
    unfold Does
    k_fill
    intro mean mg mb dp un gd cn cs fa ccd cl outer A₀ base h₀ L m s Q E B F X N T hk hd hu hret
    refine wpAny_call ?_
    k_dflt ktr_enter
    k_steps
    exact hret _ _ _ _ (by k_asm) (by k_asm) ⟨congrArg Value.bool (by decide +kernel), [], rfl⟩
end
end
section
open PySem.Calls
abbrev iK (w : World) := PySem.intKind PySem.Challenge.rw_xm0981_01.row.prog w
def KvsOf (news : Led) (sz : Int) (kvs : List (Int × Value)) (es : List Ent) : Prop := kvs.map (·.1) = (es.map (·.1)).reverse ∧ ∀ e ∈ es, ∃ v, valueAt kvs e.1 = some v ∧ DatIn news v (ownD sz e.2)
def ruleDict (w : World) (va vd : Value) (ta tb : Tok) (ep : Nat) : Obj := dictOf [{ hash := PyData.keyHash w.params (Str.ofString "action"), key := .str (Str.ofString "action") ta, val := va }, { hash := PyData.keyHash w.params (Str.ofString "wishes"), key := .str (Str.ofString "wishes") tb, val := vd }] ep
theorem KvsOf.mono {n1 n2 : Led} {sz : Int} {kvs : List (Int × Value)} {es : List Ent} (h : KvsOf n1 sz kvs es) (hs : ∀ p ∈ n1, p ∈ n2) : KvsOf n2 sz kvs es :=
  ⟨h.1, fun e he => let ⟨v, h1, h2⟩ := h.2 e he; ⟨v, h1, h2.mono hs⟩⟩
def RuleIn (w : World) (news : Led) (sz : Int) (es : List Ent) (v : Value) : Prop := ∃ (x d dw : Addr) (od : Obj) (kvs : List (Int × Value)) (va : Value) (ta tb : Tok) (ep : Nat), v = .ref x ∧ (x, instObj 178 d) ∈ news ∧ (d, ruleDict w va (.ref dw) ta tb ep) ∈ news ∧ (dw, od) ∈ news ∧ od.IsDictOf (iK w) kvs ∧ (dw == sysModules) = false ∧ KvsOf news sz kvs es
theorem RuleIn.mono {w : World} {n1 n2 : Led} {sz : Int} {es : List Ent} {v : Value} (h : RuleIn w n1 sz es v) (hs : ∀ p ∈ n1, p ∈ n2) : RuleIn w n2 sz es v := by
  obtain ⟨x, d, dw, od, kvs, va, ta, tb, ep, e, h1, h2, h3, h4, h5, h6⟩ := h
  exact ⟨x, d, dw, od, kvs, va, ta, tb, ep, e, hs _ h1, hs _ h2, hs _ h3, h4, h5, h6.mono hs⟩
def entKind (field : Int) (e : Ent) : Prop :=
  e = (9, .oth (.tuple [.str (Str.ofString "range"), .int 5, .int 80])) ∨ (∃ W, W.ok ∧ e = (field, .own W)) ∨ ∃ c : Int, (c = 0 ∨ c = 1 ∨ c = 8 ∨ c = 9) ∧ e = (0, .oth (.tuple [.str (Str.ofString "mask"), .int c, .int 9]))
def entsOk (field : Int) (es : List Ent) : Prop := es.Pairwise (fun a b => a.1 < b.1) ∧ es.length ≤ 3 ∧ ∀ e ∈ es, entKind field e
def fb (k : Int) : Int := [48, 48, 16, 12, 3, 32, 32, 8, 16, 16].getD k.toNat 0
def chkB (s b : Int) (W : Wish) : Bool := match W with
  | .mask v m => decide (0 ≤ m * s) && decide (m * s ≤ 1 * 2 ^ b.toNat - 1) && (Builtin.bitAnd (v * s) (m * s) == v * s)
  | .range l h => decide (0 ≤ l * s) && decide (l * s ≤ h * s + s - 1) && decide (h * s + s - 1 ≤ 1 * 2 ^ b.toNat - 1)
theorem chk_1 : (allWishes.all (chkB 1 3)) = true := by decide +kernel
theorem chk_32 : (allWishes.all (chkB 32 8)) = true := by decide +kernel
theorem chk_512 : (allWishes.all (chkB 512 12)) = true := by decide +kernel
theorem chk_8192 : (allWishes.all (chkB 8192 16)) = true := by decide +kernel
theorem chk_all {field s : Int} {W : Wish} (hp : okPair field s) (hW : W.ok) : chkB s (fb field) W = true := by
  have h := wish_all hW
  rcases hp with ⟨rfl, rfl⟩ | ⟨rfl, rfl⟩ | ⟨rfl, rfl⟩ | ⟨rfl, rfl⟩
  · exact List.all_eq_true.mp chk_1 W h
  · exact List.all_eq_true.mp chk_32 W h
  · exact List.all_eq_true.mp chk_512 W h
  · exact List.all_eq_true.mp chk_8192 W h
theorem chk_wish {field s : Int} {W : Wish} (hp : okPair field s) (hW : W.ok) : ∃ x a b, wishD s W = .tuple [.str x, .int a, .int b] ∧ chkOk (fb field) x a b := by
  have h := chk_all hp hW
  cases W with
  | mask v m =>
    simp only [chkB, Bool.and_eq_true, decide_eq_true_eq, beq_iff_eq] at h
    exact ⟨_, _, _, rfl, .inl ⟨rfl, h.1.1, h.1.2, h.2⟩⟩
  | range l u =>
    simp only [chkB, Bool.and_eq_true, decide_eq_true_eq] at h
    exact ⟨_, _, _, rfl, .inr ⟨rfl, h.1.1, h.1.2, h.2⟩⟩
theorem okPair.lt {field s : Int} (hp : okPair field s) : 0 < field ∧ field < 9 ∧ 0 ≤ fb field ∧ fb field ≤ 48 := by
  rcases hp with ⟨rfl, rfl⟩ | ⟨rfl, rfl⟩ | ⟨rfl, rfl⟩ | ⟨rfl, rfl⟩ <;> decide
theorem ent_chk {field s : Int} {e : Ent} (hp : okPair field s) (h : entKind field e) : ∃ x a b, ownD s e.2 = .tuple [.str x, .int a, .int b] ∧ chkOk (fb e.1) x a b ∧ 0 ≤ e.1 ∧ e.1 ≤ 9 ∧ 0 ≤ fb e.1 ∧ fb e.1 ≤ 48 ∧ (e.1 = 0 ∨ e.1 = field ∨ e.1 = 9) := by
  rcases h with rfl | ⟨W, hW, rfl⟩ | ⟨c, hc, rfl⟩
  · exact ⟨_, _, _, rfl, .inr ⟨rfl, by decide, by decide, by decide⟩, by decide, by decide, by decide, by decide, .inr (.inr rfl)⟩
  · obtain ⟨x, a, b, e, h⟩ := chk_wish hp hW
    have l := hp.lt
    exact ⟨x, a, b, e, h, Int.le_of_lt l.1, Int.le_of_lt l.2.1, l.2.2.1, l.2.2.2, .inr (.inl rfl)⟩
  · refine ⟨_, c, 9, rfl, .inl ⟨rfl, by decide, ?_, ?_⟩, Int.le_refl 0, ?_, ?_, ?_, .inl rfl⟩
    · show (9 : Int) ≤ 1 * 2 ^ (fb 0).toNat - 1
      decide
    · rcases hc with rfl | rfl | rfl | rfl <;> decide +kernel
    · show (0 : Int) ≤ 9
      decide
    · show 0 ≤ fb 0
      decide
    · show fb 0 ≤ 48
      decide
theorem kvs_len {news : Led} {sz field : Int} {kvs : List (Int × Value)} {es : List Ent} (hK : KvsOf news sz kvs es) (hE : entsOk field es) : kvs.length ≤ 3 := by
  have h := congrArg List.length hK.1
  simp at h
  have := hE.2.1
  omega
theorem kvs_desc {news : Led} {sz field : Int} {kvs : List (Int × Value)} {es : List Ent} (hK : KvsOf news sz kvs es) (hE : entsOk field es) : (kvs.map (·.1)).reverse.Pairwise (· ≤ ·) := by
  rw [hK.1, List.reverse_reverse]
  exact List.pairwise_map.mpr (hE.1.imp fun h => Int.le_of_lt h)
theorem ints_at {ks : List Int} : ∀ {vs : List Value} {i : Nat} {v : Value}, IntsAre vs ks → vs[i]? = some v → ∃ k t, ks[i]? = some k ∧ v = .int k t := by
  intro vs i v h
  induction h generalizing i with
  | nil => intro h; simp at h
  | cons a t r ih =>
    intro hv
    cases i with
    | zero => simp at hv; exact ⟨a, t, by simp, hv.symm⟩
    | succ i => simp at hv; obtain ⟨k, t', h1, h2⟩ := ih hv; exact ⟨k, t', by simpa using h1, h2⟩
section
variable {w : World} {A : Around} {E : Value → Shared → Prop} {s : Shared} {h₀ : Heap} {L : Addr} {m : Str → Option Value}
set_option maxHeartbeats 0 in
theorem fb_item : ∀ {value slice : Expr} {k : Int} {tf : Tok} {Q : Value → Shared → Prop}, (hd.heap_1 w.params).In h₀ → Fr h₀ L s.heap m → 0 ≤ k → k ≤ 9 → (∀ t, Q (.int (fb k) t) s) →
    (subscripted slice false (.ref 22) (.int k tf) = operate [.ref 22, .int k tf] (getItem (.ref 22) (.int k tf))) →
    wpAny (model PySem.Challenge.rw_xm0981_01.row.prog w) A (subscriptTail value slice (.ref 22) (.int k tf)) Q E s := by
  k_fill
  intro value slice k tf Q X F h0 h9 h hs
  refine my_tup (vs := [.int 48 _, .int 48 _, .int 16 _, .int 12 _, .int 3 _, .int 32 _, .int 32 _, .int 8 _, .int 16 _, .int 16 _]) (tupIn0 X F (by k_is)) h0 (by simp; omega) (by decide) ?_ hs
  intro v hv
  have hk : k = 0 ∨ k = 1 ∨ k = 2 ∨ k = 3 ∨ k = 4 ∨ k = 5 ∨ k = 6 ∨ k = 7 ∨ k = 8 ∨ k = 9 := by omega
  rcases hk with rfl | rfl | rfl | rfl | rfl | rfl | rfl | rfl | rfl | rfl <;> (simp at hv; subst hv; exact h _)
end
end
section
open PySem.Calls
theorem News.dropTl {h₀ h : Heap} {L : Addr} {tl l : Led} (N : News h₀ L h (tl ++ l)) : News h₀ L h l := fun p hp => N p (List.mem_append.mpr (.inr hp))
section
set_option maxHeartbeats 800000 in
theorem rule_does (w : World) (bl news : Led) (hsb : ∀ p ∈ bl, p ∈ news) (va : Value) (lw : Addr) (ow : Obj) (kvs : List (Int × Value)) (es : List Ent) (field sz : Int) (hp : okPair field sz) (hact : ActIn news va) (hm : (lw, ow) ∈ news) (hd9 : ow.IsDictOf (iK w) kvs) (lo : (lw == sysModules) = false) (hK : KvsOf bl sz kvs es) (hE : entsOk field es) :
   Does w 3 60 178 news [va, .ref lw] (fun r news' => ∃ tl, news' = tl ++ news ∧ (∀ q ∈ news, ∀ p ∈ tl, q.1 < p.1) ∧ RuleIn w (tl ++ bl) sz es r) := by
  k_with_none
  k_with "k_ne" => (refine neN ?_; (try dsimp only); first | with_reducible assumption | exact Ne.symm (by with_reducible assumption) | (refine Nat.ne_of_gt ?_; k_extra "lt") | (refine Nat.ne_of_lt ?_; k_extra "lt") | omega)
  k_with "lt" => first | with_reducible assumption | exact And.left (by with_reducible assumption) | exact And.left (And.right (by with_reducible assumption)) | exact And.left (And.right (And.right (by with_reducible assumption))) | exact And.left (And.right (And.right (And.right (by with_reducible assumption)))) | exact And.left (And.right (And.right (And.right (And.right (by with_reducible assumption))))) | exact And.left (And.right (And.right (And.right (And.right (And.right (by with_reducible assumption)))))) | exact And.left (And.right (And.right (And.right (And.right (And.right (And.right (by with_reducible assumption)))))))
  k_with "exec For Name Call cons nil" => k_dflt (refine wpAny_For ?_ (by intro _; rfl))
  k_with "pyIter ref" => refine Stop.go ?_
  k_with "FoPost" => (dsimp only [FoPost])
  k_with "exec Raise some none" => (exfalso; first | contradiction | omega | simp_all)
  k_with "testChain" => (k_dflt (first | refine test_link ?_ | refine test_last ?_))
  k_with "call builtin:sorted" => (k_here; (with_reducible show wpAny _ _ (call (Value.builtin "sorted") [Value.ref _]) _ _ _); k_dflt (refine' my_sorted_dict ?zhh9 ?zF9 ?zN9 ?zm9 ?zd9 ?zlo9 ?zn9 ?zp9 ?_; (case zhh9 => exact rfl); (case zF9 => k_asm); (case zN9 => k_asm); (case zd9 => with_reducible assumption); (case zm9 => k_mem); (case zlo9 => with_reducible assumption); (case zn9 => with_reducible assumption); (case zp9 => with_reducible assumption)); intro _ _ _ _ _ _ _ l1 _; (try k_lt l1); revert l1; intro _; (try k_sweep))
  k_with "subscriptTail" => (k_here; first | ((with_reducible show wpAny _ _ (subscriptTail _ _ (Value.ref 22) (Value.int _ _)) _ _ _); k_dflt (refine' fb_item ?zX9 ?zF9 ?za9 ?zb9 ?_ ?zs9; (case zX9 => k_asm); (case zF9 => k_asm); (case za9 => with_reducible assumption); (case zb9 => with_reducible assumption); (case zs9 => with_unfolding_all rfl)); intro _) | ((with_reducible show wpAny _ _ (subscriptTail _ _ (Value.ref _) (Value.int _ _)) _ _ _); k_dflt (refine' kda_item (knd := iK _) ?zN9 ?zm9 ?zd9 ?zk9 ?zl9 ?_ ?zs9 ?zg9; (case zN9 => k_asm); (case zd9 => with_reducible assumption); (case zm9 => k_mem); (case zk9 => exact intKind_is _ _ _ _); (case zl9 => with_reducible assumption); (case zs9 => with_unfolding_all rfl); (case zg9 => (intro _; with_unfolding_all rfl)))))
  k_with "call type:dict" => (k_here; (with_reducible show wpAny _ _ (call (Value.type _) [Value.ref _]) _ _ _); k_dflt (refine' my_dict_of (knd := iK _) ?zF9 ?zN9 ?zb9 ?zm9 ?zd9 ?zlo9 ?zz9 ?_; (case zF9 => k_asm); (case zN9 => k_asm); (case zb9 => exact Top.nolimit (by k_asm)); (case zd9 => with_reducible assumption); (case zm9 => k_mem); (case zlo9 => with_reducible assumption); (case zz9 => omega)); intro _ _ _ _ _ l1 _ _; (try k_lt l1); revert l1; intro _; (try k_sweep))
  k_with "call ref" => (k_here; (with_reducible show wpAny _ _ (call (Value.ref 135) _ _) _ _ _); (refine' Does.use (check_wish_does _ _ _ _ _ _ _ _ ?zua9 ?zub9 ?zuc9 ?zud9) ?zuB9 ?zuF9 ?zuX9 ?zuN9 ?zuT9 ?zuK9 ?zuD9 ?zuU9 ?_); (case zuB9 => first | k_asm | ktn_no "use: the frames below"); (case zuF9 => first | k_asm | ktn_no "use: the frame"); (case zuX9 => first | k_asm | ktn_no "use: the written part"); (case zuN9 => first | k_asm | ktn_no "use: the ledger"); (case zuT9 => first | k_asm | ktn_no "use: the top"); (case zuK9 => first | exact rfl | assumption | ktn_no "use: the caller"); (case zuD9 => first | ktr_room | ktn_no "use: room"); (case zuU9 => ((try simp only [units_under_make]); ktr_units)); (case zua9 => with_reducible assumption); (case zub9 => with_reducible assumption); (case zuc9 => with_reducible assumption); (case zud9 => (refine' DatIn.mono ?zum9 ?zue9; (case zue9 => with_reducible assumption); (case zum9 => (intro p9 h9; simp [h9])))); intro _ _ _ _ _ N9 hp9; obtain ⟨e9, _, e8⟩ := hp9; subst e9; subst e8; replace N9 := News.dropTl N9; (try dsimp only); revert N9; intro _)
  k_with "call ref" => (k_here; (with_reducible show wpAny _ _ (call (Value.ref 142) _ _) _ _ _); (refine' Does.use (is_action_does _ _ _ ?zua9) ?zuB9 ?zuF9 ?zuX9 ?zuN9 ?zuT9 ?zuK9 ?zuD9 ?zuU9 ?_); (case zuB9 => first | k_asm | ktn_no "use: the frames below"); (case zuF9 => first | k_asm | ktn_no "use: the frame"); (case zuX9 => first | k_asm | ktn_no "use: the written part"); (case zuN9 => first | k_asm | ktn_no "use: the ledger"); (case zuT9 => first | k_asm | ktn_no "use: the top"); (case zuK9 => first | exact rfl | assumption | ktn_no "use: the caller"); (case zuD9 => first | ktr_room | ktn_no "use: room"); (case zuU9 => ((try simp only [units_under_make]); ktr_units)); (case zua9 => exact ActIn.mono (by with_reducible assumption) (fun p9 h9 => by simp [h9])); intro _ _ _ _ _ N9 hp9; obtain ⟨e9, _, e8⟩ := hp9; subst e9; subst e8; replace N9 := News.dropTl N9; (try dsimp only); revert N9; intro _)
  have hlen := kvs_len hK hE
  have hdesc := kvs_desc hK hE
  unfold Does
  k_fill
  intro mean mg mb dp un gd cn cs fa ccd cl outer A₀ base h₀ L m s Q E B F X N T hk hd hu hret
  k_dflt (refine' call_cls ?k1 ?k2 ?k3 ?k4 ?k5 ?k6 ?_; (case k1 => k_asm); (case k2 => k_asm); (case k3 => k_asm); (case k4 => k_is); (case k5 => k_is); (case k6 => k_is); k_whole)
  intro x' d' h' F' N' l1 l2
  (try k_lt2 l2)
  k_dflt ktr_enter
  clear F' N'
  (rename Fr _ _ _ (fun _ => List.lookup _ _) => FE)
  replace FE := fr_entry (l' := [(Str.ofString "wishes", .ref lw), (Str.ofString "action", va), (Str.ofString "self", .ref x')]) FE rfl
  k_steps
  rename_i g9 L9 h8 tk D h7 tk' vs c F9 N9 hi hD
  have hD0 : ∀ q ∈ news, @LT.lt Nat _ q.1 D := fun q hq => allLt_mem hD.2.2 q hq
  unfold Stop
  with_unfolding_all refine my_for_seq (σ := List (Str × Value)) (.inl rfl) rfl (fun _ => (D, PySem.W.listOf vs.toArray c) :: (x', instObj 178 d') :: (d', dictOf [] 0) :: news) (fun c => (Str.ofString "wishes", .ref lw) :: (Str.ofString "action", va) :: (Str.ofString "self", .ref x') :: c) (fun i c => True) [] (by rfl) F9 N9 rfl (fun _ h => h) (fun _ _ _ => .head _) trivial ?_ ?_
  · rintro i ex v I oI h tk hv _ hoff F1 N1
    rw [hK.1, List.reverse_reverse] at hi
    obtain ⟨k, tkk, hk1, rfl⟩ := ints_at hi hv
    obtain ⟨e, he, hek⟩ := map_at hk1
    subst hek
    obtain ⟨v1, hv1, hv2⟩ := hK.2 e (List.mem_of_getElem? he)
    obtain ⟨x1, a1, b1, e1, hc1, h0, h9, hb0, hb48, _⟩ := ent_chk hp (hE.2.2 e (List.mem_of_getElem? he))
    rw [e1] at hv2
    replace hv2 := hv2.mono hsb
    clear F9 N9
    dsimp only at hoff F1 N1 ⊢
    k_steps
    rename_i h8 t8 F8 tl8 N8
    exact FoEnd.intro ((Str.ofString "place", .int e.1 tkk) :: ex) F8 N8 (by refine fr_ext [Str.ofString "place", Str.ofString "wishes", Str.ofString "action", Str.ofString "self"] (by repeat (first | exact trivial | refine ⟨rfl, ?_⟩)) ?_; intro y hy; simp only [noneOf, and_true] at hy; simp only [fr, hy, if_false]) (fun p hp => .tail _ hp) (.head _) (fun p hp => .inl ⟨p, hp, rfl⟩) trivial
  · rintro ex h tk _ F1 N1
    clear F9 N9
    dsimp only at F1 N1 ⊢
    k_steps
    rename_i h8 t8 tl8 h9 D' h10 o' lo' hd' l3 h11 F11 N11 kF kN Tc kX
    have l4 : @LT.lt Nat _ d' D' := l3.2.2.1
    refine hret _ ([(D', o'), (x', instObj 178 d'), (d', ruleDict w va (.ref D') (t8 + 1) (t8 + 2 + 1) 2)] ++ news) _ _ kF (fun p hp => kN p ?_) ⟨_, rfl, ?_, ⟨x', d', D', o', kvs, va, _, _, _, rfl, .tail _ (.head _), .tail _ (.tail _ (.head _)), .head _, hd', lo', hK.mono fun p hp => .tail _ (.tail _ (.tail _ hp))⟩⟩
    · rcases hp with _ | ⟨_, _ | ⟨_, _ | ⟨_, hp⟩⟩⟩
      · exact .head _
      · exact .tail _ (.tail _ (.head _))
      · exact .tail _ (.tail _ (.tail _ (.head _)))
      · exact .tail _ (.tail _ (.tail _ (.tail _ hp)))
    · intro q hq p hp
      have hq1 : @LT.lt Nat _ q.1 d' := l1 q hq
      rcases hp with _ | ⟨_, _ | ⟨_, _ | ⟨_, hp⟩⟩⟩
      · exact Nat.lt_trans hq1 l4
      · exact Nat.lt_trans hq1 l2
      · exact hq1
      · exact absurd hp List.not_mem_nil
end
end
section
open PySem.Calls
theorem take_snoc {α : Type} {l : List α} {i : Nat} {a : α} (h : l[i]? = some a) : l.take (i + 1) = l.take i ++ [a] := by rw [List.take_add_one, h]; rfl
section
set_option maxHeartbeats 400000 in
theorem rows_does (w : World) (bl news : Led) (hsb : ∀ p ∈ bl, p ∈ news) (v : Value) (es : List Ent) (field sz : Int) (hp : okPair field sz) (hR : RuleIn w bl sz es v) (hE : entsOk field es) :
   Does w 2 60 161 news [v] (fun r news' => ∃ tl, news' = tl ++ news ∧ (∀ q ∈ news, ∀ p ∈ tl, q.1 < p.1) ∧ DatIn (tl ++ bl) r (.list (es.map (entD sz)))) := by
  k_with_none
  k_with "k_ne" => (refine neN ?_; (try dsimp only); first | with_reducible assumption | exact Ne.symm (by with_reducible assumption) | (refine Nat.ne_of_gt ?_; k_extra "lt") | (refine Nat.ne_of_lt ?_; k_extra "lt") | omega)
  k_with "lt" => first | with_reducible assumption | exact And.left (by with_reducible assumption) | exact And.left (And.right (by with_reducible assumption)) | exact And.left (And.right (And.right (by with_reducible assumption))) | exact And.left (And.right (And.right (And.right (by with_reducible assumption)))) | exact And.left (And.right (And.right (And.right (And.right (by with_reducible assumption))))) | exact And.left (And.right (And.right (And.right (And.right (And.right (by with_reducible assumption)))))) | exact And.left (And.right (And.right (And.right (And.right (And.right (And.right (by with_reducible assumption)))))))
  k_with "eval ListComp" => k_dflt (refine co0_eval (by with_unfolding_all rfl) (by rfl) (by decide) ?_)
  k_with "call builtin:sorted" => (k_here; (with_reducible show wpAny _ _ (call (Value.builtin "sorted") [Value.ref _]) _ _ _); k_dflt (refine' my_sorted_dict ?zhh9 ?zF9 ?zN9 ?zm9 ?zd9 ?zlo9 ?zn9 ?zp9 ?_; (case zhh9 => exact rfl); (case zF9 => k_asm); (case zN9 => k_asm); (case zd9 => with_reducible assumption); (case zm9 => k_mem); (case zlo9 => with_reducible assumption); (case zn9 => with_reducible assumption); (case zp9 => with_reducible assumption)); intro _ _ _ _ _ _ _ l1 _; (try k_lt l1); revert l1; intro _; (try k_sweep))
  k_with "subscriptTail" => (k_here; (with_reducible show wpAny _ _ (subscriptTail _ _ (Value.ref _) (Value.int _ _)) _ _ _); k_dflt (refine' kda_item (knd := iK _) ?zN9 ?zm9 ?zd9 ?zk9 ?zl9 ?_ ?zs9 ?zg9; (case zN9 => k_asm); (case zd9 => with_reducible assumption); (case zm9 => k_mem); (case zk9 => exact intKind_is _ _ _ _); (case zl9 => with_reducible assumption); (case zs9 => with_unfolding_all rfl); (case zg9 => (intro _; with_unfolding_all rfl))))
  obtain ⟨x, dI, dw, od, kvs, va, ta, tb, ep, rfl, r1, r2, r3, r4, r5, r6⟩ := hR
  replace r1 := hsb _ r1
  replace r2 := hsb _ r2
  replace r3 := hsb _ r3
  have hlen := kvs_len r6 hE
  have hdesc := kvs_desc r6 hE
  unfold ruleDict at r2
  unfold Does
  k_fill
  intro mean mg mb dp un gd cn cs fa ccd cl outer A₀ base h₀ L m s Q E B F X N T hk hd hu hret
  refine wpAny_call ?_
  k_dflt (refine' code_defC ?k1 ?k2 ?k3 ?k4 ?k5 ?kA ?kF ?kK ?k6 ?k7 ?k8 ?k9 ?kB ?kD ?_ ?c2 ?c3 ?c4; (case kA => exact rfl); (case kF => exact rfl); (case kK => assumption); (case k1 => k_asm); (case k2 => k_asm); (case k3 => k_asm); (case k4 => k_asm); (case k5 => k_asm); (case k6 => k_is); (case k7 => k_is); (case k8 => ktr_room); (case k9 => exact BindsTo.of_eq rfl); (case kB => exact rfl); (case kD => decide +kernel); (case c2 => exact rfl); (case c3 => exact rfl); (case c4 => exact rfl); k_whole; intro g' L' h' tk' cells' FG' F' N' Y' B' X' T' l1; (try k_lt l1); k_cells Y'; (try simp only [List.cons_append, List.nil_append] at N'); (try dsimp only); (try k_fold))
  rename_i o1 d1
  replace F' : Fr g' L' h' (fr []) := by with_unfolding_all exact F'
  replace d1 : o1.data = .cell (some (.ref x)) := by with_unfolding_all exact d1
  k_steps
  rename_i DS hS tkS vs cS FS NS hi hDS
  have hvl : vs.length = es.length := by
    have h1 := congrArg List.length r6.1
    have h2 := hi.length
    simp at h1 h2
    omega
  have hDS' : ∀ q ∈ news, @LT.lt Nat _ q.1 DS := fun q hq => allLt_mem hDS.2 q hq
  unfold Stop CoGo0
  refine co0_seq (.inl rfl) rfl (by rw [hvl, sizeLine_eq]; have := hE.2.1; omega) (by decide) (by rfl) (by rfl) (BName (Str.ofString "place")) (fun i ys pool => DatAll (pool ++ bl) ys ((es.take i).map (entD sz)) ∧ (∀ q ∈ news, ∀ p ∈ pool, q.1 < p.1)) _ (.head _) FS NS ⟨.nil, fun _ _ _ h => absurd h List.not_mem_nil⟩ (co_name (by rfl) (by rfl)) ?_ ?_
  · intro i v ys pool I oI D C oC mC h tk E' hv hP hn hB lID lDC hI hpo F1 N1
    obtain ⟨hz, hord⟩ := hP
    rw [r6.1, List.reverse_reverse] at hi
    obtain ⟨k, tkk, hk1, rfl⟩ := ints_at hi hv
    obtain ⟨e, he, hek⟩ := map_at hk1
    subst hek
    obtain ⟨v1, hv1, hv2⟩ := r6.2 e (List.mem_of_getElem? he)
    clear FS NS hv hk1
    unfold BName at hB
    dsimp only at F1 N1 ⊢
    k_steps
    rename_i T hT FT NT lT
    obtain ⟨lT1, lT2, lT3, lT4⟩ := lT
    refine CoEnd.intro ((T, tupObj [.int e.1 tkk, v1] 0) :: pool) FT NT ?_ ?_ ⟨?_, ?_⟩
    · intro p hp
      simp only [List.mem_cons, List.mem_append, List.not_mem_nil, or_false] at hp ⊢
      rcases hp with (h | h | h) | (h | h) | h
      · exact .inr (.inl h)
      · exact .inr (.inr (.inl h))
      · exact .inr (.inr (.inr (.inl h)))
      · exact .inl h
      · exact .inr (.inr (.inr (.inr (.inl h))))
      · exact .inr (.inr (.inr (.inr (.inr h))))
    · intro p hp
      rcases List.mem_cons.mp hp with rfl | hp
      · refine .inr fun q hq => ?_
        simp only [List.mem_cons, List.not_mem_nil, or_false] at hq
        rcases hq with rfl | rfl | rfl
        · exact lT1
        · exact lT2
        · exact lT3
      · exact .inl ⟨p, hp, rfl⟩
    · rw [take_snoc he, List.map_append]
      exact all_snoc (hz.mono fun p hp => .tail _ hp) (DatIn.tuple (vs := [_, _]) (.head _) (.cons (.int _ _) (.cons (hv2.mono fun p hp => .tail _ (List.mem_append.mpr (.inr hp))) .nil)))
    · intro q hq p hp
      rcases List.mem_cons.mp hp with rfl | hp
      · exact allLt_mem lT4 q (List.mem_append.mpr (.inr (.tail _ (.tail _ hq))))
      · exact hord q hq p hp
  · refine co_fin_eval (P := fun ys pool => DatAll (pool ++ bl) ys ((es.take vs.length).map (entD sz)) ∧ (∀ q ∈ news, ∀ p ∈ pool, q.1 < p.1)) ?_
    intro D ys pool h tk hP hcD hpl F1 N1
    obtain ⟨hz, hord⟩ := hP
    clear FS NS
    rw [hvl, List.take_length] at hz
    k_steps
    rename_i kF kN Tc kX
    refine hret _ (((D, LCg.lst ys) :: pool) ++ news) _ _ kF (fun p hp => kN p ?_) ⟨_, rfl, ?_, DatIn.list (.head _) (hz.mono fun p hp => .tail _ hp)⟩
    · rcases List.mem_cons.mp hp with rfl | hp
      · exact .head _
      · rcases List.mem_append.mp hp with hp | hp
        · exact .tail _ (List.mem_append.mpr (.inl hp))
        · exact .tail _ (List.mem_append.mpr (.inr (.tail _ (.tail _ hp))))
    · intro q hq p hp
      rcases List.mem_cons.mp hp with rfl | hp
      · exact hcD q (.tail _ (.tail _ hq))
      · exact hord q hq p hp
end
end
section
open PySem.Calls
section
variable {prog : Program} {w : World} {A : Around} {E : Value → Shared → Prop} {s : Shared} {h₀ : Heap} {L : Addr} {m : Str → Option Value} {news : Led} {Q : Value → Shared → Prop}
end
def rowsFrom (ess : List (List Ent)) : List Row := ess.zipIdx.map fun p => ((p.2 : Int), p.1)
theorem rowsFrom_at {ess : List (List Ent)} {i : Nat} {es : List Ent} (h : ess[i]? = some es) : (rowsFrom ess)[i]? = some ((i : Int), es) := by
  simp [rowsFrom, h]
theorem rowsFrom_len {ess : List (List Ent)} : (rowsFrom ess).length = ess.length := by simp [rowsFrom]
section
variable {prog : Program} {w : World} {A : Around} {E : Value → Shared → Prop} {s : Shared} {h₀ : Heap} {L : Addr} {m : Str → Option Value} {news : Led} {Q : Value → Shared → Prop}
theorem mem_wideN {h₀ h : Heap} {L : Addr} {tl bl news : Led} {q : Addr × Obj} (_ : News h₀ L h (tl ++ news)) (hs : ∀ p ∈ bl, p ∈ news) (hq : q ∈ tl ++ bl) : q ∈ tl ++ news :=
  (List.mem_append.mp hq).elim (fun h => List.mem_append.mpr (.inl h)) fun h => List.mem_append.mpr (.inr (hs _ h))
def ItemAt (vs : List Value) (k : Int) (v : Value) : Prop := 0 ≤ k ∧ vs[k.toNat]? = some v
theorem item_at {value slice : Expr} {q : Addr} {vs : List Value} {k : Int} {u : Tok} {n : Nat} {v : Value} (N : News h₀ L s.heap news) (hm : (q, W.listOf vs.toArray n) ∈ news) (hi : ItemAt vs k v) (h2 : vs.length < 1000) (h : Q v s)
    (hs : subscripted slice false (.ref q) (.int k u) = operate [.ref q, .int k u] (getItem (.ref q) (.int k u)) := by with_unfolding_all rfl) :
    wpAny (model prog w) A (subscriptTail value slice (.ref q) (.int k u)) Q E s := by
  obtain ⟨h0, hv⟩ := hi
  have hk : k.toNat < vs.length := (List.getElem?_eq_some_iff.mp hv).1
  exact my_item N hm h0 (by omega) h2 (fun v' hv' => by rw [hv] at hv'; cases hv'; exact h) hs
end
section
set_option maxHeartbeats 400000 in
theorem open_rows_does (w : World) (bl news : Led) (hsb : ∀ p ∈ bl, p ∈ news) (lr : Addr) (nr : Nat) (xs : List Addr) (ess : List (List Ent)) (field sz : Int) (hp : okPair field sz) (hl4 : ess.length ≤ 4) (hlr : xs.length = ess.length) (hm : (lr, PySem.W.listOf (xs.map Value.ref).toArray nr) ∈ news) (hR : ∀ (i : Nat) x es, xs[i]? = some x → ess[i]? = some es → RuleIn w bl sz es (.ref x) ∧ entsOk field es) :
   Does w 4 100 76 news [.ref lr] (fun r news' => ∃ tl, news' = tl ++ news ∧ (∀ q ∈ news, ∀ p ∈ tl, q.1 < p.1) ∧ DatIn (tl ++ bl) r (rowsD sz (rowsFrom ess))) := by
  k_with_none
  k_with "k_ne" => (refine neN ?_; (try dsimp only); first | with_reducible assumption | exact Ne.symm (by with_reducible assumption) | (refine Nat.ne_of_gt ?_; k_extra "lt") | (refine Nat.ne_of_lt ?_; k_extra "lt") | omega)
  k_with "lt" => first | with_reducible assumption | exact And.left (by with_reducible assumption) | exact And.left (And.right (by with_reducible assumption)) | exact And.left (And.right (And.right (by with_reducible assumption))) | exact And.left (And.right (And.right (And.right (by with_reducible assumption)))) | exact And.left (And.right (And.right (And.right (And.right (by with_reducible assumption))))) | exact And.left (And.right (And.right (And.right (And.right (And.right (by with_reducible assumption)))))) | exact And.left (And.right (And.right (And.right (And.right (And.right (And.right (by with_reducible assumption)))))))
  k_with "eval ListComp" => k_dflt (refine co0_eval (by with_unfolding_all rfl) (by rfl) (by decide) ?_)
  k_with "eval Name" => (k_here; (with_reducible show wpAny _ _ (eval (Expr.Name (Str.ofString "tuple") _) (compEnvC _ _ _ _)) _ _ _); k_dflt (refine LCgL.ld_built (by k_asm) (by k_asm) (by k_asm) (by k_is) (by boot_by_name) (by decide) ?_))
  k_with "call type:tuple" => (k_here; (with_reducible show wpAny _ _ (call (Value.type _) [Value.ref _]) _ _ _); k_dflt (refine' my_tupleOf ?zk19 ?zk29 ?zk39 ?zk49 ?_; (case zk19 => k_asm); (case zk29 => k_asm); (case zk39 => k_mem); (case zk49 => first | assumption | omega); k_whole); intro _ _ _ _ l1; (try k_lt l1); revert l1; intro _; (try k_sweep))
  k_with "call ref" => (k_here; (with_reducible show wpAny _ _ (call (Value.ref 161) _ _) _ _ _); (refine' Does.use (rows_does _ _ _ ?zus9 _ _ _ _ ?zuh9 ?zur9 ?zue9) ?zuB9 ?zuF9 ?zuX9 ?zuN9 ?zuT9 ?zuK9 ?zuD9 ?zuU9 ?_); (case zuB9 => first | k_asm | ktn_no "use: the frames below"); (case zuF9 => first | k_asm | ktn_no "use: the frame"); (case zuX9 => first | k_asm | ktn_no "use: the written part"); (case zuN9 => first | k_asm | ktn_no "use: the ledger"); (case zuT9 => first | k_asm | ktn_no "use: the top"); (case zuK9 => first | exact rfl | assumption | ktn_no "use: the caller"); (case zuD9 => first | ktr_room | ktn_no "use: room"); (case zuU9 => first | ktr_units | ktn_no "use: units"); (case zue9 => with_reducible assumption); (case zuh9 => with_reducible assumption); (case zur9 => with_reducible assumption); (case zus9 => (intro p9 h9; refine List.mem_cons_of_mem _ (List.mem_cons_of_mem _ (List.mem_cons_of_mem _ (List.mem_append_right _ (List.mem_cons_of_mem _ ?_)))); apply_assumption <;> assumption)); intro _ _ _ _ _ N9 hp9; obtain ⟨_, e9, _, _⟩ := hp9; subst e9; (try dsimp only); obtain ⟨_, _, _, er9, hm9, _⟩ := list_inv (by assumption); subst er9; replace hm9 := mem_wideN (by assumption) (by (intro _ _; refine List.mem_cons_of_mem _ (List.mem_cons_of_mem _ (List.mem_cons_of_mem _ (List.mem_append_right _ (List.mem_cons_of_mem _ ?_)))); apply_assumption <;> assumption)) hm9; have hl9 := datAll_len (by assumption); rw [List.length_map] at hl9; revert hm9 hl9; intro _ _)
  k_with "call builtin:len" => (k_here; (with_reducible show wpAny _ _ (call (Value.builtin "len") [Value.ref _]) _ _ _); k_dflt (refine' my_len ?zk19 ?zk29 ?zk39 ?_; (case zk19 => k_asm); (case zk29 => k_mem); (case zk39 => omega)))
  k_with "subscriptTail" => (k_here; (with_reducible show wpAny _ _ (subscriptTail _ _ (Value.ref _) (Value.int _ _)) _ _ _); k_dflt (refine' item_at ?zk19 ?zk29 ?zk49 ?zk59 ?_ ?zk69; (case zk49 => with_reducible assumption); (case zk19 => k_asm); (case zk29 => k_mem); (case zk59 => omega); (case zk69 => with_unfolding_all rfl)))
  have hlen : (xs.map Value.ref).length = ess.length := by rw [List.length_map, hlr]
  have hsm : Builtin.Range.small 0 ((xs.map Value.ref).length : Int) 1 = true := by
    rw [hlen]
    have : ess.length = 0 ∨ ess.length = 1 ∨ ess.length = 2 ∨ ess.length = 3 ∨ ess.length = 4 := by omega
    rcases this with h | h | h | h | h <;> rw [h] <;> rfl
  have hrs : Builtin.Range.rangeSize 0 ((xs.map Value.ref).length : Int) 1 = ((ess.length : Nat) : Int) := by
    rw [hlen]
    have : ess.length = 0 ∨ ess.length = 1 ∨ ess.length = 2 ∨ ess.length = 3 ∨ ess.length = 4 := by omega
    rcases this with h | h | h | h | h <;> rw [h] <;> rfl
  unfold Does
  k_fill
  intro mean mg mb dp un gd cn cs fa ccd cl outer A₀ base h₀ L m s Q E B F X N T hk hd hu hret
  refine wpAny_call ?_
  k_dflt (refine' code_defC ?k1 ?k2 ?k3 ?k4 ?k5 ?kA ?kF ?kK ?k6 ?k7 ?k8 ?k9 ?kB ?kD ?_ ?c2 ?c3 ?c4; (case kA => exact rfl); (case kF => exact rfl); (case kK => assumption); (case k1 => k_asm); (case k2 => k_asm); (case k3 => k_asm); (case k4 => k_asm); (case k5 => k_asm); (case k6 => k_is); (case k7 => k_is); (case k8 => ktr_room); (case k9 => exact BindsTo.of_eq rfl); (case kB => exact rfl); (case kD => decide +kernel); (case c2 => exact rfl); (case c3 => exact rfl); (case c4 => exact rfl); k_whole; intro g' L' h' tk' cells' FG' F' N' Y' B' X' T' l1; (try k_lt l1); k_cells Y'; (try simp only [List.cons_append, List.nil_append] at N'); (try dsimp only); (try k_fold))
  rename_i o1 d1
  replace F' : Fr g' L' h' (fr []) := by with_unfolding_all exact F'
  replace d1 : o1.data = .cell (some (.ref lr)) := by with_unfolding_all exact d1
  k_steps
  rename_i hA tkA tA uA vA hRg FA NA keepA
  unfold Stop CoGo0
  refine co0_range (n := ess.length) hRg hsm hrs (Nat.le_trans hl4 (by decide)) (by decide) (by rfl) (by rfl) (by rfl) (fun i ys pool => DatAll (pool ++ bl) ys (((rowsFrom ess).take i).map (rowD sz)) ∧ (∀ q ∈ news, ∀ p ∈ pool, q.1 < p.1)) _ FA NA ⟨.nil, fun _ _ _ h => absurd h List.not_mem_nil⟩ ?_ ?_
  · intro i tv ys pool I oI D C oC mC h2 tk E' hi hP hn hB lID lDC hI hp' F1 N1
    obtain ⟨hz, hord⟩ := hP
    have hxi : i < xs.length := by omega
    obtain ⟨x, hx⟩ : ∃ x, xs[i]? = some x := ⟨xs[i], by simp [hxi]⟩
    obtain ⟨es, hes⟩ : ∃ es, ess[i]? = some es := ⟨ess[i], by simp [hi]⟩
    obtain ⟨hRu, hE⟩ := hR i x es hx hes
    have hxv : ItemAt (xs.map Value.ref) (i : Int) (.ref x) := ⟨Int.natCast_nonneg i, by simp [hx]⟩
    clear hx
    have hRu2 := hRu
    have he3 := hE.2.1
    have hrow := rowsFrom_at hes
    obtain ⟨x', dI, dw, od, kvs, va, ta, tb, ep, ex, r1, r2, r3, r4, r5, r6⟩ := hRu
    replace r1 := hsb _ r1
    replace r2 := hsb _ r2
    replace r3 := hsb _ r3
    cases ex
    clear FA NA hes
    simp only [Int.zero_add] at hB
    dsimp only at F1 N1 ⊢
    k_steps
    rename_i tlr ltr lar var nar har hdr hmr hlr T2 hT2 lT2 T hT FT NT lT
    obtain ⟨lT1, lT3⟩ := lT
    have hT2 : ∀ p ∈ tlr ++ (I, oI) :: (D, LCg.lst ys) :: (C, oC) :: (pool ++ (L' + 1, o1) :: news), @LT.lt Nat _ p.1 T2 := lT2
    have hTT : ∀ p ∈ tlr ++ (I, oI) :: (D, LCg.lst ys) :: (C, oC) :: (pool ++ (L' + 1, o1) :: news), @LT.lt Nat _ p.1 T := fun p hp => allLt_mem lT3 p hp
    refine CoEnd.intro ((T, tupObj [.int (i : Int) tv, .ref T2] 0) :: (T2, tupObj var 0) :: (tlr ++ pool)) FT NT ?_ ?_ ⟨?_, ?_⟩
    · intro p hp
      simp only [List.mem_cons, List.mem_append, List.not_mem_nil, or_false] at hp ⊢
      rcases hp with (h | h | h) | (h | h | h | h) | h | h <;> simp [h]
    · intro p hp
      rcases List.mem_cons.mp hp with rfl | hp
      · refine .inr fun q hq => ?_
        simp only [List.mem_cons, List.not_mem_nil, or_false] at hq
        exact hTT q (by rcases hq with h | h | h <;> simp [h])
      · rcases List.mem_cons.mp hp with rfl | hp
        · refine .inr fun q hq => ?_
          simp only [List.mem_cons, List.not_mem_nil, or_false] at hq
          exact hT2 q (by rcases hq with h | h | h <;> simp [h])
        · rcases List.mem_append.mp hp with hp | hp
          · refine .inr fun q hq => ltr q ?_ p hp
            simp only [List.mem_cons, List.not_mem_nil, or_false] at hq
            rcases hq with h | h | h <;> simp [h]
          · exact .inl ⟨p, hp, rfl⟩
    · rw [take_snoc hrow, List.map_append]
      refine all_snoc (hz.mono fun p hp => ?_) (DatIn.tuple (vs := [_, _]) (.head _) (.cons (.int _ _) (.cons (DatIn.tuple (vs := var) (.tail _ (.head _)) (har.mono fun p hp => ?_)) .nil)))
      · simp only [List.mem_cons, List.mem_append] at hp ⊢
        rcases hp with h | h <;> simp [h]
      · simp only [List.mem_cons, List.mem_append] at hp ⊢
        rcases hp with h | h <;> simp [h]
    · intro q hq p hp
      simp only [List.mem_cons, List.mem_append] at hp
      rcases hp with rfl | rfl | hp | hp
      · exact hTT q (by simp [hq])
      · exact hT2 q (by simp [hq])
      · exact ltr q (by simp [hq]) p hp
      · exact hord q hq p hp
  · refine co_fin_eval (P := fun ys pool => DatAll (pool ++ bl) ys (((rowsFrom ess).take ess.length).map (rowD sz)) ∧ (∀ q ∈ news, ∀ p ∈ pool, q.1 < p.1)) ?_
    intro D ys pool h tk hP hcD hpl F1 N1
    obtain ⟨hz, hord⟩ := hP
    clear FA NA
    rw [← rowsFrom_len, List.take_length] at hz
    k_steps
    rename_i kF kN Tc kX
    refine hret _ (((D, LCg.lst ys) :: pool) ++ news) _ _ kF (fun p hp => kN p ?_) ⟨_, rfl, ?_, DatIn.list (.head _) (hz.mono fun p hp => .tail _ hp)⟩
    · rcases List.mem_cons.mp hp with rfl | hp
      · exact .head _
      · rcases List.mem_append.mp hp with hp | hp
        · exact .tail _ (List.mem_append.mpr (.inl hp))
        · exact .tail _ (List.mem_append.mpr (.inr (.tail _ hp)))
    · intro q hq p hp
      rcases List.mem_cons.mp hp with rfl | hp
      · exact hcD q (.tail _ hq)
      · exact hord q hq p hp
end
end
section
open PySem.Calls
section
variable {prog : Program} {w : World} {A : Around} {E : Value → Shared → Prop} {s : Shared} {h₀ : Heap} {L : Addr} {news : Led}
open Classical in
theorem rows_ne {a b : Addr} {xs ys : List Value} {ka kb : Nat} {n₁ n₂ : Led} {R1 R2 : List Row} {field sz : Int} {Q : Value → Shared → Prop} (N : News h₀ L s.heap news) (ma : (a, W.listOf xs.toArray ka) ∈ news) (Da : DatAll n₁ xs (R1.map (rowD sz))) (sa : ∀ p ∈ n₁, p ∈ news)
    (mb : (b, W.listOf ys.toArray kb) ∈ news) (Db : DatAll n₂ ys (R2.map (rowD sz))) (sb : ∀ p ∈ n₂, p ∈ news) (hR : rowsOk field R1) (he : R1 = R2) (hu : A.units + 64 < cLine) (h : Q (.bool false) s) : wpAny (model prog w) A (compareOp .NotEq (.ref a) (.ref b)) Q E s := by
  subst he
  exact kqd_ne N ma rfl rfl Da sa mb rfl rfl Db sb (kqd_rows hR) (kqd_rows hR) hu (by simpa using h)
open Classical in
theorem rows_eq {a b : Addr} {xs ys : List Value} {ka kb : Nat} {n₁ n₂ : Led} {R1 R2 : List Row} {field sz : Int} {Q : Value → Shared → Prop} (N : News h₀ L s.heap news) (ma : (a, W.listOf xs.toArray ka) ∈ news) (Da : DatAll n₁ xs (R1.map (rowD sz))) (sa : ∀ p ∈ n₁, p ∈ news)
    (mb : (b, W.listOf ys.toArray kb) ∈ news) (Db : DatAll n₂ ys (R2.map (rowD sz))) (sb : ∀ p ∈ n₂, p ∈ news) (hR : rowsOk field R1) (he : R1 = R2) (hu : A.units + 64 < cLine) (h : Q (.bool true) s) : wpAny (model prog w) A (compareOp .Eq (.ref a) (.ref b)) Q E s := by
  subst he
  exact kqd_eq N ma rfl rfl Da sa mb rfl rfl Db sb (kqd_rows hR) (kqd_rows hR) hu (by simpa using h)
theorem pick0 {value slice : Expr} {q : Addr} {v1 v2 : Value} {u : Tok} {n : Nat} {L : Addr} {Q : Value → Shared → Prop} (N : News h₀ L s.heap news) (hm : (q, W.listOf [v1, v2].toArray n) ∈ news) (h : Q v1 s)
    (hs : subscripted slice false (.ref q) (.int 0 u) = operate [.ref q, .int 0 u] (getItem (.ref q) (.int 0 u)) := by with_unfolding_all rfl) : wpAny (model prog w) A (subscriptTail value slice (.ref q) (.int 0 u)) Q E s :=
  my_item (vs := [v1, v2]) N hm (by decide) (by simp) (by simp) (fun v hv => by simp at hv; exact hv ▸ h) hs
theorem pick1 {value slice : Expr} {q : Addr} {v1 v2 : Value} {u : Tok} {n : Nat} {L : Addr} {Q : Value → Shared → Prop} (N : News h₀ L s.heap news) (hm : (q, W.listOf [v1, v2].toArray n) ∈ news) (h : Q v2 s)
    (hs : subscripted slice false (.ref q) (.int 1 u) = operate [.ref q, .int 1 u] (getItem (.ref q) (.int 1 u)) := by with_unfolding_all rfl) : wpAny (model prog w) A (subscriptTail value slice (.ref q) (.int 1 u)) Q E s :=
  my_item (vs := [v1, v2]) N hm (by decide) (by simp) (by simp) (fun v hv => by simp at hv; exact hv ▸ h) hs
end
theorem Does.rows {w : World} {D U : Nat} {f : Addr} {news : Led} {vs : List Value} {sz : Int} {R' : List Row} (C : Does w D U f news vs (fun r news' => ∃ tl, news' = tl ++ news ∧ (∀ q ∈ news, ∀ p ∈ tl, q.1 < p.1) ∧ DatIn (tl ++ news) r (rowsD sz R')))
    {mean : ExcName → Option Value} {mg mb : Str → Option Value} {dp un : Nat} {gd : Option (List Code)} {cn : Str} {cs : Scope} {a : Addr} {ccd : Value} {cl : List (Str × Addr)} {outer : List Env} {A₀ : Around} {base h₀ : Heap} {L : Addr} {m : Str → Option Value} {s : Shared} {Q E : Value → Shared → Prop}
    (uB : Below A₀ base outer h₀) (uF : Fr h₀ L s.heap m) (uX : (hd.heap_1 w.params).In h₀) (uN : News h₀ L s.heap news) (uT : Top hd.view_1 (looseW hd.view_1 [Str.ofString "SettingError"]) mean mg mb h₀) (uK : cs.kind = .function)
    (uD : dp + D < recursionLimit) (uU : un + U < cLine)
    (ret : ∀ la va na tl h' tk', Fr h₀ L h' m → News h₀ L h' (tl ++ news) → (la, W.listOf va.toArray na) ∈ tl ++ news → DatAll (tl ++ news) va (R'.map (rowD sz)) → Q (.ref la) { s with heap := h', toks := tk' }) :
    wpAny (model PySem.Challenge.rw_xm0981_01.row.prog w) (ktrTop dp un gd cn cs L a ccd cl outer) (call (.ref f) vs) Q E s :=
  Does.use C uB uF uX uN uT uK uD uU fun r n h t F N hp => by
    obtain ⟨tl, rfl, _, hD⟩ := hp
    obtain ⟨la, va, na, rfl, h1, h2⟩ := list_inv hD
    exact ret la va na tl h t F N h1 h2
theorem DatIn.rows {news n2 : Led} {la : Addr} {va : List Value} {na : Nat} {sz : Int} {R : List Row} (hm : (la, W.listOf va.toArray na) ∈ news) (hD : DatAll news va (R.map (rowD sz))) (hs : ∀ p ∈ news, p ∈ n2) : DatIn n2 (.ref la) (rowsD sz R) := DatIn.list (hs _ hm) (hD.mono hs)
theorem sub_tl {n1 n2 tl : Led} (h : ∀ p ∈ n1, p ∈ n2) : ∀ p ∈ n1, p ∈ tl ++ n2 := fun p hp => List.mem_append.mpr (.inr (h p hp))
theorem sub_cons {n1 n2 : Led} {q : Addr × Obj} (h : ∀ p ∈ n1, p ∈ n2) : ∀ p ∈ n1, p ∈ q :: n2 := fun p hp => .tail _ (h p hp)
theorem sub_self {n1 : Led} : ∀ p ∈ n1, p ∈ n1 := fun _ h => h
section
set_option maxHeartbeats 0 in
theorem is_right_p (w : World) (news : Led) (vr v1 v2 : Value) (lw : Addr) (nw : Nat) (R : List Row) (W1 W2 : Wish) (field sz : Int) (tf ts : Tok) (hp : okPair field sz) (hW1 : W1.ok) (hW2 : W2.ok) (hR : rowsOk field R) (hDr : DatIn news vr (rowsD sz R)) (hD1 : DatIn news v1 (wishD sz W1)) (hD2 : DatIn news v2 (wishD sz W2)) (hw : (lw, W.listOf [v1, v2].toArray nw) ∈ news) :
   Does w 5 300 237 news [vr, .int field tf, .int sz ts, .ref lw] (fun r _ => r = .bool true) := by
  k_with_none
  k_with "k_ne" => (refine neN ?_; (try dsimp only); first | with_reducible assumption | exact Ne.symm (by with_reducible assumption) | (refine Nat.ne_of_gt ?_; k_extra "lt") | (refine Nat.ne_of_lt ?_; k_extra "lt") | omega)
  k_with "lt" => first | with_reducible assumption | exact And.left (by with_reducible assumption) | exact And.left (And.right (by with_reducible assumption)) | exact And.left (And.right (And.right (by with_reducible assumption))) | exact And.left (And.right (And.right (And.right (by with_reducible assumption)))) | exact And.left (And.right (And.right (And.right (And.right (by with_reducible assumption))))) | exact And.left (And.right (And.right (And.right (And.right (And.right (by with_reducible assumption)))))) | exact And.left (And.right (And.right (And.right (And.right (And.right (And.right (by with_reducible assumption)))))))
  k_with_none
  k_with "call ref" => (k_here; (with_reducible show wpAny _ _ (call (Value.ref 83) _ _) _ _ _); k_dflt ((refine' Does.rows (rows_if_so_does _ _ _ _ _ _ _ _ _  (by assumption) ?uw ?ur ?ua ?ub) ?uB ?uF ?uX ?uN ?uT ?uK ?uD ?uU ?_); (case uB => first | k_asm | ktn_no "use: the frames below"); (case uF => first | k_asm | ktn_no "use: the frame"); (case uX => first | k_asm | ktn_no "use: the written part"); (case uN => first | k_asm | ktn_no "use: the ledger"); (case uT => first | k_asm | ktn_no "use: the top"); (case uK => first | exact rfl | assumption | ktn_no "use: the caller"); (case uD => first | ktr_room | ktn_no "use: room"); (case uU => first | ktr_units | ktn_no "use: units"); (case ua => (first | with_reducible assumption | (refine' DatIn.mono ?um ?ud; (case ud => with_reducible assumption); (case um => (repeat (first | exact sub_self | refine sub_tl ?_ | refine sub_cons ?_)))) | (refine' DatIn.rows ?um ?ud ?us; (case um => with_reducible assumption); (case ud => with_reducible assumption); (case us => (repeat (first | exact sub_self | refine sub_tl ?_ | refine sub_cons ?_)))))); (case ub => (first | with_reducible assumption | (refine' DatIn.mono ?um ?ud; (case ud => with_reducible assumption); (case um => (repeat (first | exact sub_self | refine sub_tl ?_ | refine sub_cons ?_)))) | (refine' DatIn.rows ?um ?ud ?us; (case um => with_reducible assumption); (case ud => with_reducible assumption); (case us => (repeat (first | exact sub_self | refine sub_tl ?_ | refine sub_cons ?_)))))); (case uw => with_reducible assumption); (case ur => (repeat (first | with_reducible assumption | with_reducible apply soF_ok | with_reducible apply notF_ok)))); intro la va na tl h9 t9 F9 N9 hm9 hD9; (try dsimp only); (try k_sweep); (try k_fold))
  k_with "call ref" => (k_here; (with_reducible show wpAny _ _ (call (Value.ref 88) _ _) _ _ _); k_dflt ((refine' Does.rows (rows_if_not_does _ _ _ _ _ _ _ _ _  (by assumption) ?uw ?ur ?ua ?ub) ?uB ?uF ?uX ?uN ?uT ?uK ?uD ?uU ?_); (case uB => first | k_asm | ktn_no "use: the frames below"); (case uF => first | k_asm | ktn_no "use: the frame"); (case uX => first | k_asm | ktn_no "use: the written part"); (case uN => first | k_asm | ktn_no "use: the ledger"); (case uT => first | k_asm | ktn_no "use: the top"); (case uK => first | exact rfl | assumption | ktn_no "use: the caller"); (case uD => first | ktr_room | ktn_no "use: room"); (case uU => first | ktr_units | ktn_no "use: units"); (case ua => (first | with_reducible assumption | (refine' DatIn.mono ?um ?ud; (case ud => with_reducible assumption); (case um => (repeat (first | exact sub_self | refine sub_tl ?_ | refine sub_cons ?_)))) | (refine' DatIn.rows ?um ?ud ?us; (case um => with_reducible assumption); (case ud => with_reducible assumption); (case us => (repeat (first | exact sub_self | refine sub_tl ?_ | refine sub_cons ?_)))))); (case ub => (first | with_reducible assumption | (refine' DatIn.mono ?um ?ud; (case ud => with_reducible assumption); (case um => (repeat (first | exact sub_self | refine sub_tl ?_ | refine sub_cons ?_)))) | (refine' DatIn.rows ?um ?ud ?us; (case um => with_reducible assumption); (case ud => with_reducible assumption); (case us => (repeat (first | exact sub_self | refine sub_tl ?_ | refine sub_cons ?_)))))); (case uw => with_reducible assumption); (case ur => (repeat (first | with_reducible assumption | with_reducible apply soF_ok | with_reducible apply notF_ok)))); intro la va na tl h9 t9 F9 N9 hm9 hD9; (try dsimp only); (try k_sweep); (try k_fold))
  k_with "call ref" => (k_here; (with_reducible show wpAny _ _ (call (Value.ref 225) _ _) _ _ _); k_dflt ((refine' Does.rows (law_so_does _ _ _ _ _ _ _ _ _ _  (by assumption) ?uw ?ur ?ua ?ub) ?uB ?uF ?uX ?uN ?uT ?uK ?uD ?uU ?_); (case uB => first | k_asm | ktn_no "use: the frames below"); (case uF => first | k_asm | ktn_no "use: the frame"); (case uX => first | k_asm | ktn_no "use: the written part"); (case uN => first | k_asm | ktn_no "use: the ledger"); (case uT => first | k_asm | ktn_no "use: the top"); (case uK => first | exact rfl | assumption | ktn_no "use: the caller"); (case uD => first | ktr_room | ktn_no "use: room"); (case uU => first | ktr_units | ktn_no "use: units"); (case ua => (first | with_reducible assumption | (refine' DatIn.mono ?um ?ud; (case ud => with_reducible assumption); (case um => (repeat (first | exact sub_self | refine sub_tl ?_ | refine sub_cons ?_)))) | (refine' DatIn.rows ?um ?ud ?us; (case um => with_reducible assumption); (case ud => with_reducible assumption); (case us => (repeat (first | exact sub_self | refine sub_tl ?_ | refine sub_cons ?_)))))); (case ub => (first | with_reducible assumption | (refine' DatIn.mono ?um ?ud; (case ud => with_reducible assumption); (case um => (repeat (first | exact sub_self | refine sub_tl ?_ | refine sub_cons ?_)))) | (refine' DatIn.rows ?um ?ud ?us; (case um => with_reducible assumption); (case ud => with_reducible assumption); (case us => (repeat (first | exact sub_self | refine sub_tl ?_ | refine sub_cons ?_)))))); (case uw => with_reducible assumption); (case ur => (repeat (first | with_reducible assumption | with_reducible apply soF_ok | with_reducible apply notF_ok)))); intro la va na tl h9 t9 F9 N9 hm9 hD9; (try dsimp only); (try k_sweep); (try k_fold))
  k_with "call ref" => (k_here; (with_reducible show wpAny _ _ (call (Value.ref 230) _ _) _ _ _); k_dflt ((refine' Does.rows (law_not_does _ _ _ _ _ _ _ _ _ _  (by assumption) ?uw ?ur ?ua ?ub) ?uB ?uF ?uX ?uN ?uT ?uK ?uD ?uU ?_); (case uB => first | k_asm | ktn_no "use: the frames below"); (case uF => first | k_asm | ktn_no "use: the frame"); (case uX => first | k_asm | ktn_no "use: the written part"); (case uN => first | k_asm | ktn_no "use: the ledger"); (case uT => first | k_asm | ktn_no "use: the top"); (case uK => first | exact rfl | assumption | ktn_no "use: the caller"); (case uD => first | ktr_room | ktn_no "use: room"); (case uU => first | ktr_units | ktn_no "use: units"); (case ua => (first | with_reducible assumption | (refine' DatIn.mono ?um ?ud; (case ud => with_reducible assumption); (case um => (repeat (first | exact sub_self | refine sub_tl ?_ | refine sub_cons ?_)))) | (refine' DatIn.rows ?um ?ud ?us; (case um => with_reducible assumption); (case ud => with_reducible assumption); (case us => (repeat (first | exact sub_self | refine sub_tl ?_ | refine sub_cons ?_)))))); (case ub => (first | with_reducible assumption | (refine' DatIn.mono ?um ?ud; (case ud => with_reducible assumption); (case um => (repeat (first | exact sub_self | refine sub_tl ?_ | refine sub_cons ?_)))) | (refine' DatIn.rows ?um ?ud ?us; (case um => with_reducible assumption); (case ud => with_reducible assumption); (case us => (repeat (first | exact sub_self | refine sub_tl ?_ | refine sub_cons ?_)))))); (case uw => with_reducible assumption); (case ur => (repeat (first | with_reducible assumption | with_reducible apply soF_ok | with_reducible apply notF_ok)))); intro la va na tl h9 t9 F9 N9 hm9 hD9; (try dsimp only); (try k_sweep); (try k_fold))
  k_with "subscriptTail" => (k_here; first | ((with_reducible show wpAny _ _ (subscriptTail _ _ (Value.ref _) (Value.int 0 _)) _ _ _); k_dflt (refine' pick0 ?k1 ?k2 ?_ ?k6; (case k1 => k_asm); (case k2 => k_mem); (case k6 => with_unfolding_all rfl))) | ((with_reducible show wpAny _ _ (subscriptTail _ _ (Value.ref _) (Value.int 1 _)) _ _ _); k_dflt (refine' pick1 ?k1 ?k2 ?_ ?k6; (case k1 => k_asm); (case k2 => k_mem); (case k6 => with_unfolding_all rfl))))
  k_with "compareOp NotEq ref ref" => (refine Stop.go ?_)
  k_with "compareOp Eq ref ref" => (refine Stop.go ?_)
  unfold Does
  k_fill
  intro mean mg mb dp un gd cn cs fa ccd cl outer A₀ base h₀ L m s Q E B F X N T hk hd hu hret
  refine wpAny_call ?_
  k_dflt ktr_enter
  (rename Fr _ _ _ (fun _ => List.lookup _ _) => FE)
  replace FE := fr_entry (l' := [(Str.ofString "wishes", .ref lw), (Str.ofString "size", .int sz ts), (Str.ofString "field", .int field tf), (Str.ofString "rows", vr)]) FE rfl
  k_steps
  unfold Stop; refine' rows_ne ?N ?a ?d ?e ?a' ?d' ?e' ?r ?q ?n ?_; (case N => k_asm); (case a => k_dflt k_mem); (case d => with_reducible assumption); (case e => (repeat (first | exact sub_self | refine sub_tl ?_ | refine sub_cons ?_))); (case a' => k_dflt k_mem); (case d' => with_reducible assumption); (case e' => (repeat (first | exact sub_self | refine sub_tl ?_ | refine sub_cons ?_))); (case r => (repeat (first | with_reducible assumption | with_reducible apply soF_ok | with_reducible apply notF_ok)))
  case q => refine soF_eq (by assumption) (by assumption) ?_; (repeat (first | with_reducible assumption | with_reducible apply soF_ok | with_reducible apply notF_ok))
  case n => ktr_units
  k_steps
  unfold Stop; refine' rows_ne ?N ?a ?d ?e ?a' ?d' ?e' ?r ?q ?n ?_; (case N => k_asm); (case a => k_dflt k_mem); (case d => with_reducible assumption); (case e => (repeat (first | exact sub_self | refine sub_tl ?_ | refine sub_cons ?_))); (case a' => k_dflt k_mem); (case d' => with_reducible assumption); (case e' => (repeat (first | exact sub_self | refine sub_tl ?_ | refine sub_cons ?_))); (case r => (repeat (first | with_reducible assumption | with_reducible apply soF_ok | with_reducible apply notF_ok)))
  case q => refine notF_eq (by assumption) (by assumption) ?_; (repeat (first | with_reducible assumption | with_reducible apply soF_ok | with_reducible apply notF_ok))
  case n => ktr_units
  k_steps
  unfold Stop; refine' rows_ne ?N ?a ?d ?e ?a' ?d' ?e' ?r ?q ?n ?_; (case N => k_asm); (case a => k_dflt k_mem); (case d => with_reducible assumption); (case e => (repeat (first | exact sub_self | refine sub_tl ?_ | refine sub_cons ?_))); (case a' => k_dflt k_mem); (case d' => with_reducible assumption); (case e' => (repeat (first | exact sub_self | refine sub_tl ?_ | refine sub_cons ?_))); (case r => (repeat (first | with_reducible assumption | with_reducible apply soF_ok | with_reducible apply notF_ok)))
  case q => refine soF_eq (by assumption) (by assumption) ?_; (repeat (first | with_reducible assumption | with_reducible apply soF_ok | with_reducible apply notF_ok))
  case n => ktr_units
  k_steps
  unfold Stop; refine' rows_eq ?N ?a ?d ?e ?a' ?d' ?e' ?r ?q ?n ?_; (case N => k_asm); (case a => k_dflt k_mem); (case d => with_reducible assumption); (case e => (repeat (first | exact sub_self | refine sub_tl ?_ | refine sub_cons ?_))); (case a' => k_dflt k_mem); (case d' => with_reducible assumption); (case e' => (repeat (first | exact sub_self | refine sub_tl ?_ | refine sub_cons ?_))); (case r => (repeat (first | with_reducible assumption | with_reducible apply soF_ok | with_reducible apply notF_ok)))
  case q => refine notF_eq (by assumption) (by assumption) ?_; (repeat (first | with_reducible assumption | with_reducible apply soF_ok | with_reducible apply notF_ok))
  case n => ktr_units
  k_steps
  exact hret _ _ _ _ (by k_asm) (by k_asm) rfl
end
end
section
open PySem.Calls
structure LawSt where
  a : Int
  b : Int
  ta : Tok
  tb : Tok
  n : Nat
  xs : List Addr
  n1 : Nat
  ys : VList
  n2 : Nat
  ess : List (List Ent)
  pool : Led
  ex : List (Str × Value)
structure InSt where
  a : Int
  b : Int
  ta : Tok
  tb : Tok
  n : Nat
  od : Obj
  kvs : List (Int × Value)
  la : Addr
  avs : VList
  na : Nat
  es : List Ent
  pool : Led
  ex : List (Str × Value)
theorem range_small {x : Int} (h0 : 0 ≤ x) (h5 : x < 5) : Builtin.Range.small 0 (4 - x) 1 = true ∧ Builtin.Range.rangeSize 0 (4 - x) 1 = (((4 - x).toNat : Nat) : Int) := by
  have h : x = 0 ∨ x = 1 ∨ x = 2 ∨ x = 3 ∨ x = 4 := by omega
  rcases h with rfl | rfl | rfl | rfl | rfl <;> exact ⟨by rfl, by rfl⟩
theorem rowsOk_from {field sz : Int} (hp : okPair field sz) {ess : List (List Ent)} (h4 : ess.length ≤ 4) (h : ∀ es ∈ ess, entsOk field es) : rowsOk field (rowsFrom ess) := by
  refine ⟨fun r hr => ?_, by rw [rowsFrom_len]; exact h4⟩
  obtain ⟨p, hp9, rfl⟩ := List.mem_map.mp hr
  have he : p.1 ∈ ess := by
    obtain ⟨i, hi⟩ := List.getElem?_of_mem hp9
    rw [List.getElem?_zipIdx] at hi
    cases hx : ess[i]? with
    | none => rw [hx] at hi; simp at hi
    | some y =>
      rw [hx] at hi
      simp at hi
      rw [← hi]
      exact List.mem_of_getElem? hx
  obtain ⟨h1, h2, h3⟩ := h _ he
  refine ⟨fun e h9 => ?_, h2⟩
  have hl := hp.lt
  rcases h3 e h9 with rfl | ⟨W, hW, rfl⟩ | ⟨c, hc, rfl⟩
  · exact ⟨fun h => by have h : (9 : Int) = field := h; omega, by decide +kernel⟩
  · exact ⟨rfl, hW⟩
  · refine ⟨fun h => by have h : (0 : Int) = field := h; omega, ?_⟩
    simp [kqdOk] <;> decide +kernel
theorem in_ledger {h₀ h : Heap} {L : Addr} {pool : Led} {e1 e2 e3 e4 e5 e6 e7 eP ea ew eI es er ed : Addr × Obj} (N : News h₀ L h (e1 :: e2 :: e3 :: e4 :: e5 :: e6 :: e7 :: eP :: ea :: ew :: eI :: es :: er :: ed :: pool)) :
    ∃ K0 : Led, K0 = e2 :: e3 :: e4 :: e5 :: e6 :: e7 :: pool ∧ News h₀ L h (es :: ew :: e1 :: eI :: er :: ed :: ([ea] ++ K0)) :=
  ⟨_, rfl, fun p hp => N p (by
    simp only [List.mem_cons, List.mem_append, List.not_mem_nil, or_false] at hp ⊢
    rcases hp with h | h | h | h | h | h | h | h | h | h | h | h | h | h <;> simp [h])⟩
theorem rowsFrom_snoc (ess : List (List Ent)) (es : List Ent) : rowsFrom (ess ++ [es]) = rowsFrom ess ++ [((ess.length : Int), es)] := by
  simp [rowsFrom, List.zipIdx_append]
theorem own_less {l : Led} {fp fp' : List Addr} (h : OwnOff l fp) (hs : ∀ a ∈ fp', a ∈ fp) : OwnOff l fp' := fun p hp b hb => h p hp b (hs b hb)
theorem at_snoc {α : Type} {l : List α} {a : α} {j : Nat} {x : α} (h : (l ++ [a])[j]? = some x) : l[j]? = some x ∨ (j = l.length ∧ x = a) := by
  rcases Nat.lt_or_ge j l.length with hj | hj
  · exact .inl (by rwa [List.getElem?_append_left hj] at h)
  · rw [List.getElem?_append_right hj] at h
    rcases Nat.eq_or_lt_of_le hj with e | e
    · subst e
      simp at h
      exact .inr ⟨rfl, h.symm⟩
    · have : ¬ (j - l.length = 0) := by omega
      simp [List.getElem?_cons, this] at h
def kOf (field : Int) (i : Nat) : Int := [9, field, 0].getD i (-1)
theorem kOf_lt {field sz : Int} (hp : okPair field sz) {i : Nat} (hi : i < 3) : kOf field (i + 1) < kOf field i := by
  have h := hp.lt
  have : i = 0 ∨ i = 1 ∨ i = 2 := by omega
  rcases this with rfl | rfl | rfl
  · exact h.2.1
  · exact h.1
  · show (-1 : Int) < 0
    decide
theorem stored_new {kvs : List (Int × Value)} {k : Int} {v : Value} (h : k ∉ kvs.map (·.1)) : stored kvs k v = kvs ++ [(k, v)] := by
  unfold stored
  rw [if_neg]
  intro h9
  obtain ⟨p, hp, e⟩ := List.any_eq_true.mp h9
  exact h (List.mem_map.mpr ⟨p, hp, by simpa using e⟩)
theorem KvsOf.add {n1 n2 : Led} {sz : Int} {kvs : List (Int × Value)} {es : List Ent} {k : Int} {v : Value} {o : Own} (h : KvsOf n1 sz kvs es) (hs : ∀ p ∈ n1, p ∈ n2) (hk : ∀ e ∈ es, k < e.1) (hD : DatIn n2 v (ownD sz o)) : KvsOf n2 sz (stored kvs k v) ((k, o) :: es) := by
  have hnk : k ∉ kvs.map (·.1) := by
    rw [h.1]
    intro h9
    obtain ⟨e, he, e2⟩ := List.mem_map.mp (List.mem_reverse.mp h9)
    have := hk e he
    omega
  rw [stored_new hnk]
  refine ⟨by simp [h.1], ?_⟩
  intro e he
  have hne : ∀ p ∈ kvs, p.1 ≠ k := fun p hp e => hnk (List.mem_map.mpr ⟨p, hp, e⟩)
  rcases List.mem_cons.mp he with rfl | he
  · refine ⟨v, ?_, hD⟩
    have hf : kvs.find? (fun kv => decide (kv.1 = k)) = none := List.find?_eq_none.mpr fun p hp => by simpa using hne p hp
    simp [valueAt, List.find?_append, hf]
  · obtain ⟨u, h1, h2⟩ := h.2 e he
    refine ⟨u, ?_, h2.mono hs⟩
    unfold valueAt at h1 ⊢
    rw [List.find?_append]
    cases hf : kvs.find? (fun kv => decide (kv.1 = e.1)) with
    | none => rw [hf] at h1; simp at h1
    | some p => rw [hf] at h1; simpa using h1
theorem entsOk.add {field k : Int} {o : Own} {es : List Ent} {i : Nat} (h : entsOk field es) (hl : es.length ≤ i) (hi : i < 3) (hk : ∀ e ∈ es, k < e.1) (he : entKind field (k, o)) : entsOk field ((k, o) :: es) :=
  ⟨List.pairwise_cons.mpr ⟨hk, h.1⟩, by simp; omega, fun e h9 => (List.mem_cons.mp h9).elim (fun h8 => h8 ▸ he) (h.2.2 e)⟩
section
variable {prog : Program} {w : World} {A : Around} {E : Value → Shared → Prop} {s : Shared} {h₀ : Heap} {L : Addr} {m : Str → Option Value} {news : Led} {Q : Value → Shared → Prop}
theorem my_sort_new (X : (hd.heap_1 w.params).In h₀) {l T : Addr} {vs : List Value} {es : List Ent} {k sz : Int} {t : Tok} {x : Value} {n c : Nat} (F : Fr h₀ L s.heap m) (N : News h₀ L s.heap news) (hl : (l, listOf (vs ++ [Value.ref T]).toArray c) ∈ news) (hT : (T, tupObj [.int k t, x] n) ∈ news)
    (hD : DatAll news vs (es.map (entD sz))) (hasc : es.Pairwise (fun a b => a.1 < b.1)) (hk : ∀ e ∈ es, k < e.1) (hn : es.length ≤ 2)
    (h : ∀ D h' tk c', Fr h₀ L h' m → News h₀ L h' ((D, listOf (Value.ref T :: vs).toArray c') :: news) → (∀ q ∈ news, q.1 < D) → Q (.ref D) { s with heap := h', toks := tk }) :
    wpAny (model prog w) A (call (.builtin "sorted") [.ref l]) Q E s := by
  cases es with
  | nil =>
    cases hD
    exact my_sort1 F N hl h
  | cons e1 es =>
    cases hD with
    | cons h1 hD =>
      obtain ⟨a1, n1, t1, v1, rfl, m1, _⟩ := ent_inv h1
      have k1 := hk e1 (.head _)
      cases es with
      | nil =>
        cases hD
        exact my_sort2 X F N hl m1 hT k1 h
      | cons e2 es =>
        cases hD with
        | cons h2 hD =>
          obtain ⟨a2, n2, t2, v2, rfl, m2, _⟩ := ent_inv h2
          cases es with
          | nil =>
            cases hD
            exact my_sort3 X F N hl m1 m2 hT ((List.pairwise_cons.mp hasc).1 e2 (.head _)) k1 h
          | cons e3 es => simp at hn
theorem my_add {a b : Addr} {vs ws : List Value} {n k : Nat} (F : Fr h₀ L s.heap m) (N : News h₀ L s.heap news) (ha : (a, listOf vs.toArray n) ∈ news) (hb : (b, listOf ws.toArray k) ∈ news) (hz : vs.length + ws.length ≤ 1000)
    (h : ∀ D h', Fr h₀ L h' m → News h₀ L h' ((D, listOf (vs ++ ws).toArray 0) :: news) → (∀ p ∈ news, p.1 < D) → Q (.ref D) { s with heap := h' }) :
    wpAny (model prog w) A (binaryOp .Add (.ref a) (.ref b)) Q E s :=
  kmk_add_lit F N (N.isList ha) (N.isList hb) rfl h (by rw [sizeLine_eq]; simpa using Nat.le_trans hz (by decide))
end
end
section
open PySem.Calls
theorem RuleIn.ref {w : World} {news : Led} {sz : Int} {es : List Ent} {v : Value} (h : RuleIn w news sz es v) : ∃ x, v = .ref x := by
  obtain ⟨x, _, _, _, _, _, _, _, _, e, _⟩ := h
  exact ⟨x, e⟩
theorem own_cons4 {e : Addr × Obj} {l : Led} {a b c d : Nat} (h : OwnOff l [a, b, c, d]) (h1 : @LT.lt Nat _ a e.1) (h2 : @LT.lt Nat _ b e.1) (h3 : @LT.lt Nat _ c e.1) (h4 : @LT.lt Nat _ d e.1) : OwnOff (e :: l) [a, b, c, d] := by
  intro p hp q hq
  rcases List.mem_cons.mp hp with rfl | hp
  · simp only [List.mem_cons, List.not_mem_nil, or_false] at hq
    rcases hq with rfl | rfl | rfl | rfl
    · exact Nat.ne_of_gt h1
    · exact Nat.ne_of_gt h2
    · exact Nat.ne_of_gt h3
    · exact Nat.ne_of_gt h4
  · exact h p hp q hq
theorem own_cons3 {e : Addr × Obj} {l : Led} {a b c : Nat} (h : OwnOff l [a, b, c]) (h1 : @LT.lt Nat _ a e.1) (h2 : @LT.lt Nat _ b e.1) (h3 : @LT.lt Nat _ c e.1) : OwnOff (e :: l) [a, b, c] := by
  intro p hp q hq
  rcases List.mem_cons.mp hp with rfl | hp
  · simp only [List.mem_cons, List.not_mem_nil, or_false] at hq
    rcases hq with rfl | rfl | rfl
    · exact Nat.ne_of_gt h1
    · exact Nat.ne_of_gt h2
    · exact Nat.ne_of_gt h3
  · exact h p hp q hq
theorem own_ins {l : Led} {a b c d : Nat} (h : OwnOff l [a, c, d]) (h2 : ∀ p ∈ l, @LT.lt Nat _ p.1 b) : OwnOff l [a, b, c, d] := by
  intro p hp q hq
  simp only [List.mem_cons, List.not_mem_nil, or_false] at hq
  rcases hq with rfl | rfl | rfl | rfl
  · exact h p hp _ (.head _)
  · exact Nat.ne_of_lt (h2 p hp)
  · exact h p hp _ (.tail _ (.head _))
  · exact h p hp _ (.tail _ (.tail _ (.head _)))
theorem own_tl3 {tl l : Led} {a b c d : Nat} (h : OwnOff l [a, b, c, d]) (h1 : ∀ p ∈ tl, @LT.lt Nat _ a p.1) (h3 : ∀ p ∈ tl, @LT.lt Nat _ c p.1) (h4 : ∀ p ∈ tl, @LT.lt Nat _ d p.1) : OwnOff (tl ++ l) [a, c, d] := by
  intro p hp q hq
  simp only [List.mem_cons, List.not_mem_nil, or_false] at hq
  rcases List.mem_append.mp hp with hp | hp
  · rcases hq with rfl | rfl | rfl
    · exact Nat.ne_of_gt (h1 p hp)
    · exact Nat.ne_of_gt (h3 p hp)
    · exact Nat.ne_of_gt (h4 p hp)
  · rcases hq with rfl | rfl | rfl
    · exact h p hp _ (.head _)
    · exact h p hp _ (.tail _ (.tail _ (.head _)))
    · exact h p hp _ (.tail _ (.tail _ (.tail _ (.head _))))
theorem mem_in {es ew e3 eI er ed eD eT eS eQ eJ : Addr × Obj} {p2 K0 : Led} : ∀ p ∈ es :: ew :: e3 :: eI :: er :: ed :: ((eD :: eT :: p2) ++ K0), p ∈ eD :: eS :: eQ :: eT :: eJ :: es :: ew :: e3 :: eI :: er :: ed :: (p2 ++ K0) := by
  intro p hp
  simp only [List.mem_cons, List.mem_append] at hp ⊢
  rcases hp with h | h | h | h | h | h | (h | h | h) | h <;> simp [h]
theorem adr_in {a b c d : Addr} {o1 o2 o1' o2' : Obj} {e3 eI eD eT : Addr × Obj} {o5 o6 : Obj} {p2 K0 : Led} {J : Nat} (h1 : @LT.lt Nat _ J eD.1) (h2 : @LT.lt Nat _ J eT.1) : ∀ p ∈ (a, o1') :: (b, o2') :: e3 :: eI :: (c, o5) :: (d, o6) :: ((eD :: eT :: p2) ++ K0), (∃ q ∈ (a, o1) :: (b, o2) :: e3 :: eI :: (c, o5) :: (d, o6) :: (p2 ++ K0), q.1 = p.1) ∨ @LT.lt Nat _ J p.1 := by
  intro p hp
  simp only [List.mem_cons, List.mem_append] at hp
  rcases hp with rfl | rfl | rfl | rfl | rfl | rfl | (rfl | rfl | h) | h
  · exact .inl ⟨(a, _), .head _, rfl⟩
  · exact .inl ⟨(b, _), .tail _ (.head _), rfl⟩
  · exact .inl ⟨_, .tail _ (.tail _ (.head _)), rfl⟩
  · exact .inl ⟨_, .tail _ (.tail _ (.tail _ (.head _))), rfl⟩
  · exact .inl ⟨_, .tail _ (.tail _ (.tail _ (.tail _ (.head _)))), rfl⟩
  · exact .inl ⟨_, .tail _ (.tail _ (.tail _ (.tail _ (.tail _ (.head _))))), rfl⟩
  · exact .inr h1
  · exact .inr h2
  · exact .inl ⟨p, .tail _ (.tail _ (.tail _ (.tail _ (.tail _ (.tail _ (List.mem_append.mpr (.inl h))))))), rfl⟩
  · exact .inl ⟨p, .tail _ (.tail _ (.tail _ (.tail _ (.tail _ (.tail _ (List.mem_append.mpr (.inr h))))))), rfl⟩
theorem adr_same {a : Addr} {o1 o1' : Obj} {l : Led} {J : Nat} : ∀ p ∈ (a, o1') :: l, (∃ q ∈ (a, o1) :: l, q.1 = p.1) ∨ @LT.lt Nat _ J p.1 := by
  intro p hp
  rcases List.mem_cons.mp hp with rfl | hp
  · exact .inl ⟨(a, _), .head _, rfl⟩
  · exact .inl ⟨p, .tail _ hp, rfl⟩
theorem mem_out {e1 e2 e3 T2 T1 eI : Addr × Obj} {l : Led} : ∀ p ∈ e1 :: e2 :: e3 :: T2 :: T1 :: l, p ∈ T2 :: T1 :: e1 :: e2 :: e3 :: eI :: l := by
  intro p hp
  simp only [List.mem_cons] at hp ⊢
  rcases hp with h | h | h | h | h | h <;> simp [h]
theorem adr_out {a b c : Addr} {o1 o2 o3 o1' o2' o3' : Obj} {T2 T1 z1 z2 z3 z4 z5 z6 : Addr × Obj} {tl p2 pool : Led} {I : Nat} (h1 : @LT.lt Nat _ I T2.1) (h2 : @LT.lt Nat _ I T1.1) (h3 : ∀ p ∈ tl, @LT.lt Nat _ I p.1) (h4 : ∀ p ∈ p2, @LT.lt Nat _ I p.1) (k1 : @LT.lt Nat _ I z1.1) (k2 : @LT.lt Nat _ I z2.1) (k3 : @LT.lt Nat _ I z3.1) (k4 : @LT.lt Nat _ I z4.1) (k5 : @LT.lt Nat _ I z5.1) (k6 : @LT.lt Nat _ I z6.1) {K0 : Led} (hK : K0 = z1 :: z2 :: z3 :: z4 :: z5 :: z6 :: pool) :
    ∀ p ∈ (a, o1') :: (b, o2') :: (c, o3') :: T2 :: T1 :: (tl ++ (p2 ++ K0)), (∃ q ∈ (a, o1) :: (b, o2) :: (c, o3) :: pool, q.1 = p.1) ∨ @LT.lt Nat _ I p.1 := by
  subst hK
  intro p hp
  simp only [List.mem_cons, List.mem_append] at hp
  rcases hp with rfl | rfl | rfl | rfl | rfl | h | h | rfl | rfl | rfl | rfl | rfl | rfl | h
  · exact .inl ⟨(a, _), .head _, rfl⟩
  · exact .inl ⟨(b, _), .tail _ (.head _), rfl⟩
  · exact .inl ⟨(c, _), .tail _ (.tail _ (.head _)), rfl⟩
  · exact .inr h1
  · exact .inr h2
  · exact .inr (h3 p h)
  · exact .inr (h4 p h)
  · exact .inr k1
  · exact .inr k2
  · exact .inr k3
  · exact .inr k4
  · exact .inr k5
  · exact .inr k6
  · exact .inl ⟨p, .tail _ (.tail _ (.tail _ h)), rfl⟩
theorem mem_rule {e1 e2 e3 eI eq eM ew el : Addr × Obj} {tl l : Led} : ∀ p ∈ e1 :: e2 :: e3 :: eI :: (tl ++ l), p ∈ tl ++ (eq :: eM :: e1 :: ew :: el :: eI :: e2 :: e3 :: l) := by
  intro p hp
  simp only [List.mem_cons, List.mem_append] at hp ⊢
  rcases hp with h | h | h | h | h | h <;> simp [h]
theorem mem_last {e1 e2 e3 : Addr × Obj} {tl l : Led} : ∀ p ∈ e1 :: e3 :: (tl ++ l), p ∈ tl ++ (e1 :: e2 :: e3 :: l) := by
  intro p hp
  simp only [List.mem_cons, List.mem_append] at hp ⊢
  rcases hp with h | h | h | h <;> simp [h]
end
section
open PySem.Calls
theorem News.nilOf {h₀ h : Heap} {L : Addr} {l : Led} (_ : News h₀ L h l) : News h₀ L h [] := fun _ h => nomatch h
theorem DoesL.use {w : World} {D U : Nat} {f : Addr} {news : Led} {l : Addr} {vs : List Value} {Post : Value → Led → Prop} (C : DoesL w D U f news l vs Post)
    {mean : ExcName → Option Value} {mg mb : Str → Option Value} {dp un : Nat} {gd : Option (List Code)} {cn : Str} {cs : Scope} {a : Addr} {ccd : Value} {cl : List (Str × Addr)} {outer : List Env} {A₀ : Around} {base h₀ : Heap} {L : Addr} {m : Str → Option Value} {s : Shared} {Q E : Value → Shared → Prop}
    (hl : base.IsList l vs.toArray) (uB : Below A₀ base outer h₀) (uF : Fr h₀ L s.heap m) (uX : (hd.heap_1 w.params).In h₀) (uN : News h₀ L s.heap news) (uT : Top hd.view_1 (looseW hd.view_1 [Str.ofString "SettingError"]) mean mg mb h₀) (uK : cs.kind = .function)
    (uD : dp + D < recursionLimit) (uU : un + U < cLine)
    (ret : ∀ r news' h' tk', Fr h₀ L h' m → News h₀ L h' news' → Post r news' → Q r { s with heap := h', toks := tk' }) :
    wpAny (model PySem.Challenge.rw_xm0981_01.row.prog w) (ktrTop dp un gd cn cs L a ccd cl outer) (call (.ref f) [.ref l]) Q E s := C mean mg mb dp un gd cn cs a ccd cl outer A₀ base h₀ L m s Q E hl uB uF uX uN uT uK uD uU ret
theorem nil_at {α : Type} {j : Nat} {x : α} (h : ([] : List α)[j]? = some x) : False := by simp at h
theorem nil_mem {α : Type} {x : α} {P : Prop} (h : x ∈ ([] : List α)) : P := absurd h List.not_mem_nil
theorem ok25 : (Wish.range 2 5).ok := by unfold Wish.ok; omega
theorem ok33 : (Wish.range 3 3).ok := by unfold Wish.ok; omega
theorem own_c {e : Addr × Obj} {l : Led} {w I s r d : Nat} {X : Prop} (h : OwnOff l [s, w, r, d]) (f : @LT.lt Nat _ w e.1 ∧ @LT.lt Nat _ I e.1 ∧ @LT.lt Nat _ s e.1 ∧ @LT.lt Nat _ r e.1 ∧ @LT.lt Nat _ d e.1 ∧ X) : OwnOff (e :: l) [s, w, r, d] := own_cons4 h f.2.2.1 f.1 f.2.2.2.1 f.2.2.2.2.1
def R0 : List Row := rowsFrom [[(4, .own (.range 2 5))]]
theorem R0_ok : rowsOk 4 R0 := by
  refine ⟨fun r hr => ?_, by decide⟩
  have e : r = (0, [(4, .own (.range 2 5))]) := by simpa [R0, rowsFrom] using hr
  subst e
  refine ⟨fun e he => ?_, by decide⟩
  have e2 : e = (4, .own (.range 2 5)) := by simpa using he
  subst e2
  exact ⟨rfl, ok25⟩
theorem R0_not : notF (withinS 1) (.range 3 3) R0 = R0 := by
  have h : withinS 1 (.range 2 5) (.range 3 3) = false := by decide +kernel
  simp [notF, R0, rowsFrom, notP, h]
theorem R0_eq : R0 = [(0, [(4, .own (.range 2 5))])] := by simp [R0, rowsFrom]
section
local macro_rules | `(tactic| k_qdec) => `(tactic| first | exact names_ok | exact imports_ok)
set_option maxHeartbeats 0 in
theorem law_holds : PySem.Challenge.rw_xm0981_01.Holds := by
  k_with_none
  k_with "k_ne" => (refine neN ?_; (try dsimp only); first | with_reducible assumption | exact Ne.symm (by with_reducible assumption) | (refine Nat.ne_of_gt ?_; k_extra "lt") | (refine Nat.ne_of_lt ?_; k_extra "lt") | omega)
  k_with "lt" => first | with_reducible assumption | exact And.left (by with_reducible assumption) | exact And.left (And.right (by with_reducible assumption)) | exact And.left (And.right (And.right (by with_reducible assumption))) | exact And.left (And.right (And.right (And.right (by with_reducible assumption)))) | exact And.left (And.right (And.right (And.right (And.right (by with_reducible assumption))))) | exact And.left (And.right (And.right (And.right (And.right (And.right (by with_reducible assumption)))))) | exact And.left (And.right (And.right (And.right (And.right (And.right (And.right (by with_reducible assumption)))))))
  k_with "exec For Name Call cons nil" => k_dflt (refine wpAny_For ?_ (by intro _; rfl))
  k_with "exec For Tuple Name cons nil" => k_dflt (refine wpAny_For ?_ (by intro _; rfl))
  k_with "pyIter ref" => refine Stop.go ?_
  k_with "FoPost" => (dsimp only [FoPost])
  k_with "call type:tuple" => (k_here; (with_reducible show wpAny _ _ (call (Value.type _) [Value.ref _]) _ _ _); k_dflt (refine' my_tupleOf ?zk19 ?zk29 ?zk39 ?zk49 ?_; (case zk19 => k_asm); (case zk29 => k_asm); (case zk39 => k_mem); (case zk49 => first | assumption | omega); k_whole); intro _ _ _ _ l1; (try k_lt l1); revert l1; intro _; (try k_sweep))
  k_with "call ref" => (k_here; (with_reducible show wpAny _ _ (call (Value.ref 178) _ _) _ _ _); refine Stop.go ?_)
  k_with "call ref" => (k_here; (with_reducible show wpAny _ _ (call (Value.ref 76) _ _) _ _ _); refine Stop.go ?_)
  k_with "call ref" => (k_here; (with_reducible show wpAny _ _ (call (Value.ref 88) _ _) _ _ _); refine Stop.go ?_)
  k_with "call ref" => (k_here; (with_reducible show wpAny _ _ (call (Value.ref 189) _ _) _ _ _); refine Stop.go ?_)
  k_with "call ref" => (k_here; (with_reducible show wpAny _ _ (call (Value.ref 203) _ _) _ _ _); refine Stop.go ?_)
  k_with "call ref" => (k_here; (with_reducible show wpAny _ _ (call (Value.ref 237) _ _) _ _ _); refine Stop.go ?_)
  k_with "exec For Tuple List cons nil" => k_dflt (refine wpAny_For ?_ (by intro _; rfl))
  k_with "compareOp NotEq ref ref" => refine Stop.go ?_
  k_with "compareOp Eq ref ref" => refine Stop.go ?_
  k_with "eval Dict" => (k_here; k_dflt (refine' kdn_int ?zq9 ?zF9 ?zN9 ?zb9 ?za9 ?zl9 ?ze9 ?zn9 ?_; (case zq9 => rfl); (case zF9 => k_asm); (case zN9 => first | k_asm | exact News.nil); (case zb9 => exact Top.nolimit (by k_asm)); (case za9 => rfl); (case zl9 => rfl); (case ze9 => exact List.cons_ne_nil _ _); (case zn9 => exact Nat.le_of_ble_eq_true rfl)); intro _ _ _ _ _ l1 _ _; (try k_lt l1); revert l1; intro _)
  k_with "setItem ref int" => (k_here; k_dflt (refine' kda_set (knd := iK _) ?zF9 ?zN9 ?zU9 ?zd9 ?zk9 ?zz9 ?_; (case zF9 => k_asm); (case zN9 => k_asm); (case zU9 => k_updF); (case zd9 => with_reducible assumption); (case zk9 => exact intKind_is _ _ _ _); (case zz9 => (rw [sizeLine_eq]; omega))); intro _ _ _ N' _; (try dsimp only at N'); (try k_sweep))
  k_with "binaryOp Add ref ref" => (k_here; (with_reducible show wpAny _ _ (binaryOp Operator.Add (Value.ref _) (Value.ref _)) _ _ _); k_dflt (refine' my_add (ws := [_]) ?zF9 ?zN9 ?za9 ?zb9 ?zz9 ?_; (case zF9 => k_asm); (case zN9 => k_asm); (case zb9 => k_mem); (case za9 => k_mem); (case zz9 => (simp; omega))); intro _ _ _ _ l1; (try k_lt l1); revert l1; intro _; (try k_sweep))
  k_with "call builtin:sorted" => (k_here; refine Stop.go ?_)
  k_with "call ref" => (k_here; (with_reducible show wpAny _ _ (call (Value.ref 196) _ _) _ _ _); k_dflt ((refine' Does.use (take_does _ _ _ _ _ _ _ _ _ _ _ ?zua9 (by assumption) ?zub9 ?zuc9) ?zuB9 ?zuF9 ?zuX9 ?zuN9 ?zuT9 ?zuK9 ?zuD9 ?zuU9 ?_); (case zuB9 => first | k_asm | ktn_no "use: the frames below"); (case zuF9 => first | k_asm | ktn_no "use: the frame"); (case zuX9 => first | k_asm | ktn_no "use: the written part"); (case zuN9 => first | k_asm | ktn_no "use: the ledger"); (case zuT9 => first | k_asm | ktn_no "use: the top"); (case zuK9 => first | exact rfl | assumption | ktn_no "use: the caller"); (case zuD9 => first | ktr_room | ktn_no "use: room"); (case zuU9 => first | ktr_units | ktn_no "use: units"); (case zua9 => first | assumption | exact UpdF_again (by assumption) _ | k_updF); (case zub9 => first | decide | assumption | omega); (case zuc9 => first | decide | assumption | omega); intro _ _ _ _ _ N9 hp9; obtain ⟨_, _, _, _, _, _, _, er9, _, _, _, e9⟩ := hp9; subst e9; subst er9; (try dsimp only at N9); (try dsimp only)); revert N9; intro _)
  k_with "call ref" => (k_here; (with_reducible show wpAny _ _ (call (Value.ref 210) _ _) _ _ _); k_dflt ((refine' Does.use (law_wish_does _ _ _ _ _ _ _ _ _ _ _ ?zua9 (by assumption) ?zub9) ?zuB9 ?zuF9 ?zuX9 ?zuN9 ?zuT9 ?zuK9 ?zuD9 ?zuU9 ?_); (case zuB9 => first | k_asm | ktn_no "use: the frames below"); (case zuF9 => first | k_asm | ktn_no "use: the frame"); (case zuX9 => first | k_asm | ktn_no "use: the written part"); (case zuN9 => first | k_asm | ktn_no "use: the ledger"); (case zuT9 => first | k_asm | ktn_no "use: the top"); (case zuK9 => first | exact rfl | assumption | ktn_no "use: the caller"); (case zuD9 => first | ktr_room | ktn_no "use: room"); (case zuU9 => first | ktr_units | ktn_no "use: units"); (case zua9 => k_updF); (case zub9 => with_reducible assumption); intro _ _ _ _ _ N9 hp9; obtain ⟨_, _, _, _, _, _, _, _, _, er9, _, e9, lt9, _⟩ := hp9; subst e9; subst er9; (try dsimp only at N9 lt9); (try k_lt lt9); revert lt9; intro _; (try dsimp only)); revert N9; intro _)
  exact top rfl rfl rfl (by
    k_go0
    all_goals try k_fold
    (rename World => w)
    (rename IntsAre _ _ => hIs)
    (rename Heap.IsList _ _ _ => hLs)
    (rename Below callerA _ [] _ => hBl)
    (rename Fr _ _ _ (fun _ => List.lookup _ _) => FE)
    replace FE := fr_entry (l' := [(Str.ofString "script", _)]) FE rfl
    k_steps
    (rename Obj.IsDictOf _ _ (intKeyPairs _) => hDk)
    unfold Stop
    refine' Does.use (rule_does _ _ _ (fun _ h => h) _ _ _ _ [(4, .own (.range 2 5))] 4 1 (.inl ⟨rfl, rfl⟩) (.inl ⟨_, rfl⟩) ?ha hDk ?hlo ?hK ?hE) ?uB ?uF ?uX ?uN ?uT ?uK ?uD ?uU ?_; (case uB => first | k_asm | ktn_no "use: the frames below"); (case uF => first | k_asm | ktn_no "use: the frame"); (case uX => first | k_asm | ktn_no "use: the written part"); (case uN => first | k_asm | ktn_no "use: the ledger"); (case uT => first | k_asm | ktn_no "use: the top"); (case uK => first | exact rfl | assumption | ktn_no "use: the caller"); (case uD => first | ktr_room | ktn_no "use: room"); (case uU => first | ktr_units | ktn_no "use: units")
    case ha => k_dflt k_mem
    case hlo => assumption
    case hE => exact ⟨by simp, by decide, fun e he => by rw [List.mem_singleton.mp he]; exact .inr (.inl ⟨.range 2 5, ok25, rfl⟩)⟩
    case hK => exact ⟨rfl, fun e he => by rw [List.mem_singleton.mp he]; exact ⟨_, rfl, DatIn.tuple (vs := [_, _, _]) (by k_dflt k_mem) (.cons (.str _ _) (.cons (.int _ _) (.cons (.int _ _) .nil)))⟩⟩
    intro r9 n9 h9 t9 F9 N9 hp9
    obtain ⟨tl9, e9, lt9, hR9⟩ := hp9
    subst e9
    obtain ⟨x, rfl⟩ := RuleIn.ref hR9
    dsimp only
    k_steps
    unfold Stop
    refine' Does.use (open_rows_does _ _ _ (fun _ h => h) _ _ [x] [[(4, .own (.range 2 5))]] 4 1 (.inl ⟨rfl, rfl⟩) (by decide) rfl ?ha ?hR) ?uB ?uF ?uX ?uN ?uT ?uK ?uD ?uU ?_; (case uB => first | k_asm | ktn_no "use: the frames below"); (case uF => first | k_asm | ktn_no "use: the frame"); (case uX => first | k_asm | ktn_no "use: the written part"); (case uN => first | k_asm | ktn_no "use: the ledger"); (case uT => first | k_asm | ktn_no "use: the top"); (case uK => first | exact rfl | assumption | ktn_no "use: the caller"); (case uD => first | ktr_room | ktn_no "use: room"); (case uU => first | ktr_units | ktn_no "use: units")
    case ha => k_dflt k_mem
    case hR =>
      intro i x' es' h1 h2
      cases i with
      | zero =>
        cases h1
        cases h2
        exact ⟨hR9.mono fun p hp => .tail _ hp, by simp, by decide, fun e he => by rw [List.mem_singleton.mp he]; exact .inr (.inl ⟨.range 2 5, ok25, rfl⟩)⟩
      | succ i => simp at h1
    intro r8 n8 h8 t8 F8 N8 hp8
    obtain ⟨tl8, e8, lt8, hD8⟩ := hp8
    subst e8
    dsimp only
    k_steps
    unfold Stop
    refine' Does.use (rows_if_not_does _ _ _ _ R0 (.range 3 3) 4 1 _ (.inl ⟨rfl, rfl⟩) ok33 R0_ok ?ha ?hb) ?uB ?uF ?uX ?uN ?uT ?uK ?uD ?uU ?_; (case uB => first | k_asm | ktn_no "use: the frames below"); (case uF => first | k_asm | ktn_no "use: the frame"); (case uX => first | k_asm | ktn_no "use: the written part"); (case uN => first | k_asm | ktn_no "use: the ledger"); (case uT => first | k_asm | ktn_no "use: the top"); (case uK => first | exact rfl | assumption | ktn_no "use: the caller"); (case uD => first | ktr_room | ktn_no "use: room"); (case uU => first | ktr_units | ktn_no "use: units")
    case ha => exact DatIn.mono (fun p hp => .tail _ hp) hD8
    case hb => exact DatIn.tuple (vs := [_, _, _]) (.head _) (.cons (.str _ _) (.cons (.int _ _) (.cons (.int _ _) .nil)))
    intro r7 n7 h7 t7 F7 N7 hp7
    obtain ⟨tl7, e7, lt7, hD7⟩ := hp7
    subst e7
    obtain ⟨la7, va7, na7, er7, hm7, ha7⟩ := list_inv hD7
    subst er7
    dsimp only
    k_steps
    unfold Stop
    refine' rows_ne (field := 4) (sz := 1) (R2 := [(0, [(4, .own (.range 2 5))])]) ?zN ?za ha7 (fun _ h => h) ?zb (DatAll.cons (DatIn.tuple (vs := [_, _]) ?zm1 (.cons (.int _ _) (.cons (DatIn.tuple (vs := [_]) ?zm2 (.cons (DatIn.tuple (vs := [_, _]) ?zm3 (.cons (.int _ _) (.cons (DatIn.tuple (vs := [_, _, _]) ?zm4 (.cons (.str _ _) (.cons (.int _ _) (.cons (.int _ _) .nil)))) .nil))) .nil)) .nil))) .nil) (fun _ h => h) (notF_ok R0_ok) (by rw [R0_not, R0_eq]) ?zn ?_
    case zN => k_asm
    case za => with_reducible assumption
    case zb => k_dflt k_mem
    case zm1 => k_dflt k_mem
    case zm2 => k_dflt k_mem
    case zm3 => k_dflt k_mem
    case zm4 => k_dflt k_mem
    case zn => ktr_units
    k_steps
    have N6 := News.nilOf N7
    clear hD7 ha7 hm7 N7 lt7 hD8 lt8 hR9 lt9 hDk
    unfold Stop
    refine' DoesL.use (pool_does _ _ _ _ _ hIs (by omega)) hLs ?uB ?uF ?uX ?uN ?uT ?uK ?uD ?uU ?_; (case uB => first | k_asm | ktn_no "use: the frames below"); (case uF => first | k_asm | ktn_no "use: the frame"); (case uX => first | k_asm | ktn_no "use: the written part"); (case uN => first | k_asm | ktn_no "use: the ledger"); (case uT => first | k_asm | ktn_no "use: the top"); (case uK => first | exact rfl | assumption | ktn_no "use: the caller"); (case uD => first | ktr_room | ktn_no "use: room"); (case uU => first | ktr_units | ktn_no "use: units")
    intro r6 n6 h6 t6 F6 N6 hp6
    obtain ⟨ls, a, b, ta, tb, n, rfl, hok, rfl, _⟩ := hp6
    dsimp only
    k_steps
    rename_i D1 hh1 lD1 D2 hh2 lD2 D3 hh3 lD3 D4 hh4 lD4 lq hh5 F5 N5 lD5
    unfold Stop
    refine' Does.use (one_does _ _ _ _ _ a b ta tb n 0 [.ref D1, .ref D2, .ref D3, .ref D4] ?zU hok ?zq ?zr (by simp) (by simp)) ?uB ?uF ?uX ?uN ?uT ?uK ?uD ?uU ?_; (case uB => first | k_asm | ktn_no "use: the frames below"); (case uF => first | k_asm | ktn_no "use: the frame"); (case uX => first | k_asm | ktn_no "use: the written part"); (case uN => first | k_asm | ktn_no "use: the ledger"); (case uT => first | k_asm | ktn_no "use: the top"); (case uK => first | exact rfl | assumption | ktn_no "use: the caller"); (case uD => first | ktr_room | ktn_no "use: room"); (case uU => first | ktr_units | ktn_no "use: units")
    case zU => k_updF
    case zq => intro o; exact .head _
    case zr => exact .head _
    intro r6 n6 h6 t6 F6 N6 hp6
    obtain ⟨i, a', b', ta', tb', n', hr, hok', e6⟩ := hp6
    obtain ⟨t, field, sz, tf, ts, rfl, hmT, hp, hlt⟩ : ∃ t field sz tf ts, r6 = .ref t ∧ (t, tupObj [.int field tf, .int sz ts] 0) ∈ n6 ∧ okPair field sz ∧ @LT.lt Nat _ ls t := by
      rw [e6]
      rcases i with _ | _ | _ | _ | i
      · cases hr
        exact ⟨_, 4, 1, _, _, rfl, by k_dflt k_mem, .inl ⟨rfl, rfl⟩, lD1.1⟩
      · cases hr
        exact ⟨_, 7, 32, _, _, rfl, by k_dflt k_mem, .inr (.inl ⟨rfl, rfl⟩), lD2.2.1⟩
      · cases hr
        exact ⟨_, 3, 512, _, _, rfl, by k_dflt k_mem, .inr (.inr (.inl ⟨rfl, rfl⟩)), lD3.2.2.1⟩
      · cases hr
        exact ⟨_, 8, 8192, _, _, rfl, by k_dflt k_mem, .inr (.inr (.inr ⟨rfl, rfl⟩)), lD4.2.2.2.1⟩
      · simp at hr
    have hmS : (ls, srcObj a' b' ta' tb' n') ∈ n6 := by rw [e6]; k_dflt k_mem
    replace N6 : News _ _ h6 [(ls, srcObj a' b' ta' tb' n'), (t, tupObj [.int field tf, .int sz ts] 0)] := fun p hp => N6 p (by
      rcases List.mem_cons.mp hp with rfl | hp
      · exact hmS
      · rw [List.mem_singleton.mp hp]; exact hmT)
    clear hmS hmT e6 hr N5 F5 n6 lD1 lD2 lD3 lD4 lD5 hok
    dsimp only
    k_steps
    rename_i lr hq6 lR ld hq5 lD DT hq4 lT hq3 hq2 hq1 FQ NQ hQ tQ FQ2 x5 a1 b1 ta1 tb1 k1 tx hx0 hx5 hs1 NQ2 hA tkA tA uA vA hRg FA NA keepA
    obtain ⟨lR1, lR2⟩ := lR
    have hsz := hp.size
    obtain ⟨lD1, lD2, lD3⟩ := lD
    clear FQ NQ FQ2 NQ2
    unfold Stop
    with_unfolding_all refine my_for_range (n := (4 - x5).toNat) (σ := LawSt) hRg (range_small hx0 hx5).1 (range_small hx0 hx5).2 (fun c => (ls, srcObj c.a c.b c.ta c.tb c.n) :: (lr, listOf (c.xs.map Value.ref).toArray c.n1) :: (ld, listOf c.ys.toArray c.n2) :: c.pool) (fun c => (Str.ofString "rules", .ref lr) :: (Str.ofString "due", .ref ld) :: (Str.ofString "size", .int sz ts) :: (Str.ofString "field", .int field tf) :: (Str.ofString "source", .ref ls) :: c.ex) (fun i c => srcOk c.a c.b ∧ c.xs.length = i ∧ c.ess.length = i ∧ (∀ j x es, c.xs[j]? = some x → c.ess[j]? = some es → RuleIn w c.pool sz es (.ref x) ∧ entsOk field es) ∧ DatAll c.pool c.ys ((rowsFrom c.ess).map (rowD sz)) ∧ OwnOff c.pool [ls, lr, ld]) ⟨a1, b1, ta1, tb1, k1, [], 0, [], 0, [], [], [(Str.ofString "told", _), (Str.ofString "script", _)]⟩ (by rfl) FA NA (by refine fr_ext [Str.ofString "rules", Str.ofString "due", Str.ofString "size", Str.ofString "field", Str.ofString "source", Str.ofString "told", Str.ofString "script"] (by repeat (first | exact trivial | refine ⟨rfl, ?_⟩)) ?_; intro y hy; simp only [noneOf, and_true] at hy; simp only [fr, hy, if_false]) ?_ ⟨hs1, rfl, rfl, (fun j x es h => (nil_at h).elim), .nil, (fun _ h => nomatch h)⟩ ?_ ?_
    · intro p hp
      rcases hp with _ | ⟨_, _ | ⟨_, _ | ⟨_, hp⟩⟩⟩
      · exact .tail _ (.tail _ (.tail _ (.head _)))
      · exact .tail _ (.tail _ (.head _))
      · exact .tail _ (.head _)
      · exact absurd hp List.not_mem_nil
    · rintro i ⟨a, b, ta, tb, n, xs, n1, ys, n2, ess, pool, ex⟩ tv I oI h tk hi ⟨hok, hxl, hel, hRu, hDu, of1⟩ hoff F1 N1
      clear FA NA hRg keepA
      dsimp only at hok hxl hel hRu hDu of1 hoff F1 N1 ⊢
      simp only [Int.zero_add]
      have hI1 : @Ne Nat ls I := hoff (ls, _) (.head _)
      have hI2 : @Ne Nat lr I := hoff (lr, _) (.tail _ (.head _))
      have hI3 : @Ne Nat ld I := hoff (ld, _) (.tail _ (.tail _ (.head _)))
      k_steps
      rename_i lw g12 ow lo hs' fs' hi0 fi' lLw la0 g11 lLa DP g10 lDP g9 g8 g7 FX NX tkX h92 t92 x1 aa2 bb2 tta2 ttb2 kk2 ttx1 hx1 hy1 hs2 h91 t91 x2 aa1 bb1 tta1 ttb1 kk1 ttx2 hx2 hy2 hs3 Do g6 lDo g5 Dr g4 lDr D9 g3 lD9 h90 t90 WW ww ow9 aa bb taa tbb kk hWW hss hdW lww Df g2 lDf Dz g1 lDz l3 g0 FB NB lL3
      clear hs' fs' fi' FX NX F1 N1 hs2 hs3 hok
      have hpl : ∀ p ∈ pool, @LT.lt Nat _ p.1 lw := fun p hp => allLt_mem lLw.2.2.2.2 p hp
      obtain ⟨K0, hK0, NC⟩ := in_ledger NB
      clear NB
      have hof : OwnOff ([(la0, PySem.W.listOf #[] 0)] ++ K0) [ls, lw, lr, ld] := by
        rw [hK0]
        exact own_c (own_c (own_c (own_c (own_c (own_c (own_c (own_ins of1 hpl) lDo.2.2) lDr.2.2.2) lD9.2.2.2.2) lww.2.2.2.2.2) lDf.2.2.2.2.2.2) lDz.2.2.2.2.2.2.2) lLa
      have hit : ∀ (i : Nat) (v : Value), ([Value.ref D9, Value.ref Df, Value.ref Dz] : List Value)[i]? = some v → i < 3 ∧ ∃ q tk w' nt o, v = .ref q ∧ (q, tupObj [.int (kOf field i) tk, w'] nt) ∈ K0 ∧ DatIn K0 w' (ownD sz o) ∧ entKind field (kOf field i, o) := by
        intro i v hv
        rw [hK0]
        rcases i with _ | _ | _ | i
        · cases hv
          exact ⟨by decide, _, _, _, _, .oth (.tuple [.str (Str.ofString "range"), .int 5, .int 80]), rfl, .tail _ (.tail _ (.tail _ (.head _))), DatIn.tuple (vs := [_, _, _]) (.tail _ (.tail _ (.tail _ (.tail _ (.head _))))) (.cons (.str _ _) (.cons (.int _ _) (.cons (.int _ _) .nil))), .inl rfl⟩
        · cases hv
          exact ⟨by decide, _, _, _, _, .own WW, rfl, .tail _ (.head _), hdW.mono (fun p hp => by rw [List.mem_singleton.mp hp]; exact .tail _ (.tail _ (.head _))), .inr (.inl ⟨WW, hWW, rfl⟩)⟩
        · cases hv
          exact ⟨by decide, _, _, _, _, .oth (.tuple [.str (Str.ofString "mask"), .int (x1 + 8 * x2), .int 9]), rfl, .head _, DatIn.tuple (vs := [_, _, _]) (.tail _ (.tail _ (.tail _ (.tail _ (.tail _ (.head _)))))) (.cons (.str _ _) (.cons (.int _ _) (.cons (.int _ _) .nil))), .inr (.inr ⟨x1 + 8 * x2, by omega, rfl⟩)⟩
        · simp at hv
      unfold Stop
      with_unfolding_all refine my_for_seq (σ := InSt) (.inl rfl) rfl (fun c => (ls, srcObj c.a c.b c.ta c.tb c.n) :: (lw, c.od) :: (l3, PySem.W.listOf [Value.ref D9, Value.ref Df, Value.ref Dz].toArray 0) :: (I, oI) :: (lr, listOf (xs.map Value.ref).toArray n1) :: (ld, listOf ys.toArray n2) :: (c.pool ++ K0)) (fun c => (Str.ofString "wishes", .ref lw) :: (Str.ofString "asked", .ref c.la) :: (Str.ofString "other", .ref Do) :: (Str.ofString "place", .int (i : Int) tv) :: (Str.ofString "rules", .ref lr) :: (Str.ofString "due", .ref ld) :: (Str.ofString "size", .int sz ts) :: (Str.ofString "field", .int field tf) :: (Str.ofString "source", .ref ls) :: c.ex) (fun i c => srcOk c.a c.b ∧ c.od.IsDictOf (iK w) c.kvs ∧ KvsOf (c.pool ++ K0) sz c.kvs c.es ∧ (c.la, listOf c.avs.toArray c.na) ∈ c.pool ∧ DatAll (c.pool ++ K0) c.avs (c.es.map (entD sz)) ∧ entsOk field c.es ∧ c.es.length ≤ i ∧ (i < 3 → ∀ e ∈ c.es, kOf field i < e.1) ∧ OwnOff (c.pool ++ K0) [ls, lw, lr, ld] ∧ (∀ p ∈ c.pool, @LT.lt Nat _ I p.1)) ⟨aa, bb, taa, tbb, kk, ow, [], la0, [], 0, [], [(la0, PySem.W.listOf #[] 0)], ex⟩ (by rfl) FB NC (by refine fr_ext [Str.ofString "wishes", Str.ofString "asked", Str.ofString "other", Str.ofString "place", Str.ofString "rules", Str.ofString "due", Str.ofString "size", Str.ofString "field", Str.ofString "source"] (by repeat (first | exact trivial | refine ⟨rfl, ?_⟩)) ?_; intro y hy; simp only [noneOf, and_true] at hy; simp only [fr, hy, if_false]) (fun _ h => h) (fun _ c _ => .tail _ (.tail _ (.head _))) ⟨hss, hi0, ⟨rfl, fun _ h => nil_mem h⟩, .head _, .nil, ⟨.nil, Nat.zero_le _, fun _ h => nil_mem h⟩, Nat.le_refl _, fun _ _ h => nil_mem h, hof, fun p hp => by rw [List.mem_singleton.mp hp]; exact lLa.2.1⟩ ?_ ?_
      · rintro j ⟨a', b', ta', tb', n', od, kvs, la, avs, na, es, pool2, ex2⟩ v I2 oI2 h' tk' hv ⟨hok, hod, hkv, hla, hav, hes, hej, hek, hof2, hIp⟩ hoff2 F2 N2
        obtain ⟨hj3, q, tkq, w', nt, o, rfl, hq, hw', hen⟩ := hit j v hv
        have hkl := kvs_len hkv hes
        have hal := datAll_len hav
        rw [List.length_map] at hal
        clear FB NC hof
        dsimp only at hok hod hkv hla hav hes hej hek hof2 hIp hoff2 hkl hal F2 N2 ⊢
        have hJ1 : @Ne Nat ls I2 := hoff2 (ls, _) (.head _)
        have hJ2 : @Ne Nat lw I2 := hoff2 (lw, _) (.tail _ (.head _))
        have hJ3 : @LT.lt Nat _ ls lw := lLw.2.1
        replace hek := hek hj3
        have hklt := kOf_lt hp hj3
        have hJ4 : @LT.lt Nat _ lr lw := lLw.2.2.1
        have hJ5 : @LT.lt Nat _ ld lw := lLw.2.2.2.1
        k_steps
        · rename_i x9 a9 b9 ta9 tb9 k9 tx9 hx9 hy9 hs9 hpos s1 o1 hd1 T s2 lT1 lQ s3 lQ1 lS s4 FS NS lS1
          unfold Stop
          refine' my_sort_new (sz := sz) (es := es) ?zX FS NS (.head _) (.tail _ (.tail _ (.head _))) (hav.mono fun p hp => .tail _ (.tail _ (.tail _ (.tail _ (.tail _ (.tail _ (.tail _ (.tail _ (.tail _ (.tail _ hp)))))))))) hes.1 hek (by omega) ?_
          case zX => k_asm
          intro D h8 tk8 c8 F8 N8 l8
          have lDI : @LT.lt Nat _ I2 D := l8 (I2, oI2) (.tail _ (.tail _ (.tail _ (.head _))))
          have lDs : @LT.lt Nat _ ls D := l8 (ls, _) (.tail _ (.tail _ (.tail _ (.tail _ (.head _)))))
          have lDw : @LT.lt Nat _ lw D := l8 (lw, _) (.tail _ (.tail _ (.tail _ (.tail _ (.tail _ (.head _))))))
          have lDr : @LT.lt Nat _ lr D := l8 (lr, _) (.tail _ (.tail _ (.tail _ (.tail _ (.tail _ (.tail _ (.tail _ (.tail _ (.head _)))))))))
          have lDd : @LT.lt Nat _ ld D := l8 (ld, _) (.tail _ (.tail _ (.tail _ (.tail _ (.tail _ (.tail _ (.tail _ (.tail _ (.tail _ (.head _))))))))))
          have lDI1 : @LT.lt Nat _ I D := l8 (I, oI) (.tail _ (.tail _ (.tail _ (.tail _ (.tail _ (.tail _ (.tail _ (.head _))))))))
          obtain ⟨lTJ, lTs, lTw, lT3, lTI, lTr, lTd, _⟩ := lT1
          clear FS NS
          dsimp only
          k_steps
          rename_i s6 F6 N6
          refine FoEnd.intro ⟨a9, b9, ta9, tb9, k9, o1, stored kvs (kOf field j) w', D, .ref T :: avs, c8, (kOf field j, o) :: es, (D, PySem.W.listOf (Value.ref T :: avs).toArray c8) :: (T, tupObj [.int (kOf field j) tkq, w'] 0) :: pool2, (Str.ofString "wish", w') :: (Str.ofString "one", .int (kOf field j) tkq) :: ex2⟩ F6 N6 (by refine fr_ext [Str.ofString "asked", Str.ofString "wish", Str.ofString "one", Str.ofString "wishes", Str.ofString "other", Str.ofString "place", Str.ofString "rules", Str.ofString "due", Str.ofString "size", Str.ofString "field", Str.ofString "source"] (by repeat (first | exact trivial | refine ⟨rfl, ?_⟩)) ?_; intro y hy; simp only [noneOf, and_true] at hy; simp only [fr, hy, if_false]) ?_ (.tail _ (.tail _ (.tail _ (.tail _ (.head _))))) ?_ ⟨hs9, hd1, ?_, .head _, ?_, hes.add hej hj3 hek hen, ?_, ?_, ?_, ?_⟩
          · exact mem_in
          · exact adr_in lDI lTJ
          · exact hkv.add (fun p hp => .tail _ (.tail _ hp)) hek (hw'.mono fun p hp => .tail _ (.tail _ (List.mem_append.mpr (.inr hp))))
          · exact .cons (DatIn.tuple (vs := [_, _]) (.tail _ (.head _)) (.cons (.int _ _) (.cons (hw'.mono fun p hp => .tail _ (.tail _ (List.mem_append.mpr (.inr hp)))) .nil))) (hav.mono fun p hp => .tail _ (.tail _ hp))
          · simp only [List.length_cons]; omega
          · intro _ e he
            rcases List.mem_cons.mp he with rfl | he
            · exact hklt
            · exact Int.lt_trans hklt (hek e he)
          · exact own_cons4 (own_cons4 hof2 lTs lTw lTr lTd) lDs lDw lDr lDd
          · intro p hp
            rcases List.mem_cons.mp hp with rfl | hp
            · exact lDI1
            · rcases List.mem_cons.mp hp with rfl | hp
              · exact lTI
              · exact hIp p hp
        · rename_i F9 x9 a9 b9 ta9 tb9 k9 tx9 hx9 hy9 hs9 N9 hpos
          refine FoEnd.intro ⟨a9, b9, ta9, tb9, k9, od, kvs, la, avs, na, es, pool2, (Str.ofString "wish", w') :: (Str.ofString "one", .int (kOf field j) tkq) :: ex2⟩ F9 N9 (by refine fr_ext [Str.ofString "wish", Str.ofString "one", Str.ofString "wishes", Str.ofString "asked", Str.ofString "other", Str.ofString "place", Str.ofString "rules", Str.ofString "due", Str.ofString "size", Str.ofString "field", Str.ofString "source"] (by repeat (first | exact trivial | refine ⟨rfl, ?_⟩)) ?_; intro y hy; simp only [noneOf, and_true] at hy; simp only [fr, hy, if_false]) (fun p hp => .tail _ hp) (.head _) ?_ ⟨hs9, hod, hkv, hla, hav, hes, Nat.le_succ_of_le hej, fun _ e he => Int.lt_trans hklt (hek e he), hof2, hIp⟩
          exact adr_same
      · rintro ⟨a', b', ta', tb', n', od, kvs, la, avs, na, es, pool2, ex2⟩ h' tk' ⟨hok, hod, hkv, hla, hav, hes, hej, _, hof2, hIp⟩ F2 N2
        have hkl := kvs_len hkv hes
        have hal := datAll_len hav
        rw [List.length_map] at hal
        have hes3 := hes.2.1
        clear FB NC hof hit
        have hJ4 : @LT.lt Nat _ lr lw := lLw.2.2.1
        have hJ5 : @LT.lt Nat _ ld lw := lLw.2.2.2.1
        have hJ3 : @LT.lt Nat _ ls lw := lLw.2.1
        dsimp only at hok hod hkv hla hav hes hej hof2 hIp hkl hal F2 N2 ⊢
        k_steps
        rename_i DM m1 lDM lq m2 FM NM lLq
        unfold Stop
        refine' Does.use (one_does _ _ _ _ _ a' b' ta' tb' n' 0 [_, _, .ref DM] ?zU hok ?zq ?zr (by simp) (by simp)) ?uB ?uF ?uX ?uN ?uT ?uK ?uD ?uU ?_; (case uB => first | k_asm | ktn_no "use: the frames below"); (case uF => first | k_asm | ktn_no "use: the frame"); (case uX => first | k_asm | ktn_no "use: the written part"); (case uN => first | k_asm | ktn_no "use: the ledger"); (case uT => first | k_asm | ktn_no "use: the top"); (case uK => first | exact rfl | assumption | ktn_no "use: the caller"); (case uD => first | ktr_room | ktn_no "use: room"); (case uU => first | ktr_units | ktn_no "use: units")
        case zU => k_updF
        case zq => intro o; exact .head _
        case zr => exact .head _
        intro r6 n6 h6 t6 F6 N6 hp6
        obtain ⟨i6, a6, b6, ta6, tb6, k6, hr6, hs6, e6⟩ := hp6
        subst e6
        clear FM NM
        dsimp only at N6 ⊢
        k_steps
        unfold Stop
        refine' Does.use (rule_does _ (pool2 ++ K0) _ ?zs _ _ _ kvs es field sz hp ?za ?zm hod ?zl hkv hes) ?uB ?uF ?uX ?uN ?uT ?uK ?uD ?uU ?_; (case uB => first | k_asm | ktn_no "use: the frames below"); (case uF => first | k_asm | ktn_no "use: the frame"); (case uX => first | k_asm | ktn_no "use: the written part"); (case uN => first | k_asm | ktn_no "use: the ledger"); (case uT => first | k_asm | ktn_no "use: the top"); (case uK => first | exact rfl | assumption | ktn_no "use: the caller"); (case uD => first | ktr_room | ktn_no "use: room"); (case uU => first | ktr_units | ktn_no "use: units")
        case zs => exact fun p hp => .tail _ (.tail _ (.tail _ (.tail _ (.tail _ (.tail _ (.tail _ (.tail _ hp)))))))
        case zm => exact .tail _ (.tail _ (.tail _ (.head _)))
        case zl => exact lo
        case za =>
          rcases i6 with _ | _ | _ | i6
          · cases hr6
            exact .inl ⟨_, rfl⟩
          · cases hr6
            exact .inr (.inl ⟨_, rfl⟩)
          · cases hr6
            exact .inr (.inr ⟨DM, 0, _, _, rfl, .tail _ (.head _)⟩)
          · simp at hr6
        intro r5 n5 h5 t5 F5 N5 hp5
        obtain ⟨tl5, e5, lt5, hR5⟩ := hp5
        subst e5
        obtain ⟨x, rfl⟩ := RuleIn.ref hR5
        have lt5s : ∀ p ∈ tl5, @LT.lt Nat _ ls p.1 := fun p hp => lt5 (ls, _) (.tail _ (.tail _ (.head _))) p hp
        have lt5I : ∀ p ∈ tl5, @LT.lt Nat _ I p.1 := fun p hp => lt5 (I, _) (.tail _ (.tail _ (.tail _ (.tail _ (.tail _ (.head _)))))) p hp
        have lt5r : ∀ p ∈ tl5, @LT.lt Nat _ lr p.1 := fun p hp => lt5 (lr, _) (.tail _ (.tail _ (.tail _ (.tail _ (.tail _ (.tail _ (.head _))))))) p hp
        have lt5d : ∀ p ∈ tl5, @LT.lt Nat _ ld p.1 := fun p hp => lt5 (ld, _) (.tail _ (.tail _ (.tail _ (.tail _ (.tail _ (.tail _ (.tail _ (.head _)))))))) p hp
        have hofs : OwnOff (tl5 ++ (pool2 ++ K0)) [ls, lr, ld] := own_tl3 hof2 lt5s lt5r lt5d
        replace N5 : News _ _ h5 ((ls, srcObj a6 b6 ta6 tb6 k6) :: (lr, listOf (xs.map Value.ref).toArray n1) :: (ld, listOf ys.toArray n2) :: (I, oI) :: (tl5 ++ (pool2 ++ K0))) := fun p hp => N5 p (mem_rule p hp)
        have hxs4 : (xs.map Value.ref).length ≤ 4 := by rw [List.length_map]; omega
        have hys4 : ys.length ≤ 4 := by rw [datAll_len hDu, List.length_map, rowsFrom_len]; omega
        have hav4 : avs.length ≤ 1000 := by
          have h : es.length ≤ 3 := hes3
          have h' : avs.length = es.length := hal
          omega
        clear lt5 N6 F6 hr6
        dsimp only
        k_steps
        rename_i s7 T1 s8 lT1 T2 s9 lT2 s10 F9 N9
        rw [show (List.map Value.ref xs).toArray.push (Value.ref x) = ((xs ++ [x]).map Value.ref).toArray by rw [List.push_toArray, List.map_append]; rfl, List.push_toArray] at N9
        have hpK : ∀ p ∈ pool, p ∈ K0 := fun p hp => by rw [hK0]; exact .tail _ (.tail _ (.tail _ (.tail _ (.tail _ (.tail _ hp)))))
        refine FoEnd.intro ⟨a6, b6, ta6, tb6, k6, xs ++ [x], n1 + 1, ys ++ [.ref T2], n2 + 1, ess ++ [es], (T2, tupObj [.int (i : Int) tv, .ref T1] 0) :: (T1, tupObj avs 0) :: (tl5 ++ (pool2 ++ K0)), (Str.ofString "wishes", .ref lw) :: (Str.ofString "asked", .ref la) :: (Str.ofString "other", .ref Do) :: (Str.ofString "place", .int (i : Int) tv) :: ex2⟩ F9 N9 (by refine fr_ext [Str.ofString "wishes", Str.ofString "asked", Str.ofString "other", Str.ofString "place", Str.ofString "rules", Str.ofString "due", Str.ofString "size", Str.ofString "field", Str.ofString "source"] (by repeat (first | exact trivial | refine ⟨rfl, ?_⟩)) ?_; intro y hy; simp only [noneOf, and_true] at hy; simp only [fr, hy, if_false]) ?_ (.tail _ (.tail _ (.tail _ (.tail _ (.tail _ (.head _)))))) ?_ ⟨hs6, ?_, ?_, ?_, ?_, ?_⟩
        · exact mem_out
        · exact adr_out lT2.2.2.2.2.1 lT1.2.2.2.1 lt5I hIp lDz.2.2.2.2.2.2.2.2.1 lDf.2.2.2.2.2.2.2.1 lww.2.2.2.2.2.2.1 lD9.2.2.2.2.2.1 lDr.2.2.2.2.1 lDo.2.2.2.1 hK0
        · simp [hxl]
        · simp [hel]
        · intro j x' es' h1 h2
          rcases at_snoc h1 with h1 | ⟨e1, rfl⟩
          · rcases at_snoc h2 with h2 | ⟨e2, _⟩
            · have h3 := hRu j x' es' h1 h2
              exact ⟨h3.1.mono fun p hp => .tail _ (.tail _ (List.mem_append.mpr (.inr (List.mem_append.mpr (.inr (hpK p hp)))))), h3.2⟩
            · have h4 := (List.getElem?_eq_some_iff.mp h1).1
              omega
          · rcases at_snoc h2 with h2 | ⟨_, rfl⟩
            · have h4 := (List.getElem?_eq_some_iff.mp h2).1
              omega
            · exact ⟨hR5.mono fun p hp => .tail _ (.tail _ hp), hes⟩
        · rw [rowsFrom_snoc, List.map_append, hel]
          exact all_snoc (hDu.mono fun p hp => .tail _ (.tail _ (List.mem_append.mpr (.inr (List.mem_append.mpr (.inr (hpK p hp))))))) (DatIn.tuple (vs := [_, _]) (.head _) (.cons (.int _ _) (.cons (DatIn.tuple (vs := avs) (.tail _ (.head _)) (hav.mono fun p hp => .tail _ (.tail _ (List.mem_append.mpr (.inr hp))))) .nil)))
        · exact own_cons3 (own_cons3 hofs lT1.1 lT1.2.1 lT1.2.2.1) lT2.2.1 lT2.2.2.1 lT2.2.2.2.1
    · rintro ⟨a, b, ta, tb, n, xs, n1, ys, n2, ess, pool, ex⟩ h tk ⟨hok, hxl, hel, hRu, hDu, of1⟩ F1 N1
      clear FA NA hRg keepA
      dsimp only at hok hxl hel hRu hDu of1 F1 N1 ⊢
      k_steps
      have hRok : rowsOk field (rowsFrom ess) := rowsOk_from hp (by omega) fun es h => by
        obtain ⟨j, hj⟩ := List.getElem?_of_mem h
        have hjl := (List.getElem?_eq_some_iff.mp hj).1
        exact (hRu j (xs[j]'(by omega)) es (by simp) hj).2
      unfold Stop
      refine' Does.use (open_rows_does _ pool _ ?zs lr n1 xs ess field sz hp (by omega) (by omega) ?zm hRu) ?uB ?uF ?uX ?uN ?uT ?uK ?uD ?uU ?_; (case uB => first | k_asm | ktn_no "use: the frames below"); (case uF => first | k_asm | ktn_no "use: the frame"); (case uX => first | k_asm | ktn_no "use: the written part"); (case uN => first | k_asm | ktn_no "use: the ledger"); (case uT => first | k_asm | ktn_no "use: the top"); (case uK => first | exact rfl | assumption | ktn_no "use: the caller"); (case uD => first | ktr_room | ktn_no "use: room"); (case uU => first | ktr_units | ktn_no "use: units")
      case zs => exact fun p hp => .tail _ (.tail _ (.tail _ hp))
      case zm => exact .tail _ (.head _)
      intro r5 n5 h5 t5 F5 N5 hp5
      obtain ⟨tl5, e5, lt5, hD5⟩ := hp5
      subst e5
      obtain ⟨la, va, na, er5, hm5, ha5⟩ := list_inv hD5
      subst er5
      have hofs : OwnOff (tl5 ++ pool) [ls] := by
        intro p hp q hq
        rw [List.mem_singleton.mp hq]
        rcases List.mem_append.mp hp with hp | hp
        · exact Nat.ne_of_gt (lt5 (ls, _) (.head _) p hp)
        · exact of1 p hp ls (.head _)
      have hlds : @Ne Nat ld ls := by omega
      replace N5 : News _ _ h5 ((ls, srcObj a b ta tb n) :: (ld, listOf ys.toArray n2) :: (tl5 ++ pool)) := fun p hp => N5 p (mem_last p hp)
      clear lt5 F1 N1
      dsimp only
      k_steps
      unfold Stop
      refine' rows_ne (field := field) (sz := sz) (R1 := rowsFrom ess) (R2 := rowsFrom ess) ?zN ?za ha5 ?zs ?zb hDu ?zt hRok rfl ?zn ?_
      case zN => k_asm
      case za => exact .tail _ (.tail _ hm5)
      case zs => exact fun p hp => .tail _ (.tail _ hp)
      case zt => exact fun p hp => .tail _ (.tail _ (List.mem_append.mpr (.inr hp)))
      case zb => exact .tail _ (.head _)
      case zn => ktr_units
      k_steps
      unfold Stop
      refine' Does.use (is_right_p _ _ _ _ _ _ _ (rowsFrom ess) _ _ field sz _ _ hp ?z5 ?z6 hRok ?zr ?z1 ?z2 ?zw) ?uB ?uF ?uX ?uN ?uT ?uK ?uD ?uU ?_; (case uB => first | k_asm | ktn_no "use: the frames below"); (case uF => first | k_asm | ktn_no "use: the frame"); (case uX => first | k_asm | ktn_no "use: the written part"); (case uN => first | k_asm | ktn_no "use: the ledger"); (case uT => first | k_asm | ktn_no "use: the top"); (case uK => first | exact rfl | assumption | ktn_no "use: the caller"); (case uD => first | ktr_room | ktn_no "use: room"); (case uU => first | ktr_units | ktn_no "use: units")
      case zw => exact .head _
      case zr => exact hD5.mono fun p hp => .tail _ (.tail _ (.tail _ (.tail _ (.tail _ hp))))
      case z1 =>
        refine' DatIn.mono ?um ?ud
        case ud => with_reducible assumption
        case um => exact fun p9 h9 => by rw [List.mem_singleton.mp h9]; exact .tail _ (.tail _ (.head _))
      case z2 =>
        refine' DatIn.mono ?um ?ud
        case ud => with_reducible assumption
        case um => exact fun p9 h9 => by rw [List.mem_singleton.mp h9]; exact .tail _ (.head _)
      case z5 => assumption
      case z6 => assumption
      intro r9 n9 h9 t9 F9 N9 hp9
      subst hp9
      dsimp only
      k_steps)
end
end
end
end Mine
theorem PySem.Challenge.cw_xm0981_01_holds : PySem.Challenge.rw_xm0981_01.Holds := by
  exact Mine.law_holds
