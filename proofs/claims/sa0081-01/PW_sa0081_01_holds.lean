import PyProof.Rows.All
import Wide.All
import OpenK.AllK
import Wide.FinOn
import PySem.Challenge.RW_sa0081_01
open PySem PySem.W PyProof.Rows
set_option Elab.async false
set_option maxRecDepth 100000
set_option maxHeartbeats 8000000
set_option rowWalk.seconds 0
set_option compiler.extract_closed false
set_option pp.maxSteps 3000
set_option pp.deepTerms false
namespace Mine
open PySem PySem.W PySem.Spec PySem.Calls PyProof.Rows
section
set_option Elab.async false
/- the head: one run of the top, looked at three times (the library's twins of the machine alone: no twin of the program, of the heap or of the pieces, which are most of a head's size) -/
abbrev pg : Program := PySem.Challenge.pw_sa0081_01
/-- the text without its lines '__name__ = ..' -/
def hv : Program := { pg with main := { pg.main with body := [1, 3, 5, 6, 7, 8, 9, 10, 11, 12, 14, 15, 16, 17, 18, 19, 20, 21, 22, 23, 25, 26, 27, 28, 29].filterMap fun i => pg.main.body[i]? } }
noncomputable def runT (p : Program) (N : Nat) (w : World) (os : OsState) : Option Shared :=
  PySem.W.Fast.tw14082659384304107361 PySem.W.Fast.tw14364793385576792824 p w (boot_heap w.params).objs.size ((boot_heap w.params).nsMap mainGlobals "__annotations__") N ⟨boot_heap w.params, #[], boot_drawn, boot_toks, os⟩ (topStub p)
theorem runT_eq {p : Program} {N : Nat} {w : World} {os : OsState} : runT p N w os = topRun treeTable p w (boot_heap w.params).objs.size ((boot_heap w.params).nsMap mainGlobals "__annotations__") N ⟨boot_heap w.params, #[], boot_drawn, boot_toks, os⟩ (topStub p) := by
  unfold runT
  rw [← PySem.W.Fast.te14082659384304107361, ← PySem.W.Fast.te14364793385576792824]
theorem left_of {p q : Program} {loose : List Str} {Xt : Shared → Bool} {α : Type} {Yf : Shared → α} {Ya : World → α} {N : Nat} {g0 : Bool}
    (e : opening p = plainProg p.main.scope.names) (hN : Nat.ble 600 N = true) (g : ∀ s, fenceModules? p s = some s)
    (h1 : ∀ w : World, ((boot_heap w.params).isNs mainGlobals && (#[] : Array GenState).size == 0) = true)
    (h2 : ∀ w os, (runT p N w os).map (fun s => staticsOk (importedModules p.main.body) (boot_heap w.params) s.heap && namesBound p s.heap && gensDone s && laidKept (boot_heap w.params) s.heap) = some true)
    (h3 : ∀ w os, (runT p N w os).map (fun s => PySem.W.Fast.tw4187177175401517315 q loose (importedModules p.main.body) Xt g0 s) = some (openGood q loose))
    (h4 : ∀ w os, (runT p N w os).map Yf = some (Ya w)) : LeftO p q loose Xt Yf Ya N g0 := by
  intro w
  obtain ⟨⟨h, gs, d, k, os⟩, hs, e'⟩ := Option.map_eq_some_iff.mp (boot_open e hN g w)
  obtain ⟨rfl, rfl, rfl, rfl⟩ : h = boot_heap w.params ∧ gs = #[] ∧ d = boot_drawn ∧ k = boot_toks := by simpa using e'
  obtain ⟨s₁, hr, k2⟩ := Option.map_eq_some_iff.mp (h2 w os)
  have k3 := h3 w os
  have k4 := h4 w os
  rw [hr] at k3 k4
  rw [← PySem.W.Fast.te4187177175401517315] at k3
  rw [runT_eq] at hr
  have t : topFrom treeTable p w N ⟨boot_heap w.params, #[], boot_drawn, boot_toks, os⟩ = some s₁ := by
    unfold topFrom
    dsimp only
    rw [h1 w, hr]
    show (match staticsOk (importedModules p.main.body) (boot_heap w.params) s₁.heap && namesBound p s₁.heap && gensDone s₁ && laidKept (boot_heap w.params) s₁.heap with | true => _ | false => _) = _
    rw [k2]
  unfold openEnds
  rw [hs]
  show (topFrom treeTable p w N _).map _ = _
  rw [t]
  exact congrArg some (Prod.ext (Option.some.inj k3) (Option.some.inj k4))
theorem left2 (w : World) (os : OsState) : (runT pg 2042 w os).map (fun s => staticsOk (importedModules pg.main.body) (boot_heap w.params) s.heap && namesBound pg s.heap && gensDone s && laidKept (boot_heap w.params) s.heap) = some true := by kernel_rfl
theorem left3 (w : World) (os : OsState) : (runT pg 2042 w os).map (fun s => PySem.W.Fast.tw4187177175401517315 hv [] (importedModules pg.main.body) (fun s => xlAt hv [] s && recOk (RowW.records (OpenRow.toRowW (OpenLaw.row PySem.Challenge.rw_sa0081_01))) s) true s) = some (openGood hv []) := by kernel_rfl
theorem said1 : OpenLaw.wellSaid PySem.Challenge.rw_sa0081_01 = true := by
  rw [PySem.W.Fast.te9446332074065402090]
  kernel_rfl
section
local macro_rules | `(tactic| o_law) => `(tactic| (refine holds_law said1 fun said => ?_))
local macro_rules | `(tactic| o_head $H) => `(tactic| (
  refine holds_open (q := hv) (loose := []) (Xt := fun s => xlAt hv [] s && recOk (RowW.records (OpenRow.toRowW (OpenLaw.row PySem.Challenge.rw_sa0081_01))) s) (XP := XL hv []) (Yf := Hook.obs $H) (Ya := Hook.val $H) (YP := Hook.says $H) (N := 2042) ?hl (Hook.of $H) (Hook.keeps $H) (fun s e => xl_of s (Bool.and_eq_true_iff.mp e).1) XL.keeps (by rfl) (by rfl) (by rfl) (fun s e => recFacts_of (Bool.and_eq_true_iff.mp e).2) (by rfl) (by first | assumption | decide +kernel) (by decide +kernel) ⟨rfl, rfl, rfl, rfl, rfl, by decide +kernel⟩ ?hw ?hc
  case hl => exact left_of (p := pg) (by kernel_rfl) (by decide) (fun s => by kernel_rfl) (fun w => by kernel_rfl) left2 left3 (fun w os => by kernel_rfl)))
open_top hd for PySem.Challenge.rw_sa0081_01
end
end
def Ret (s : Shared) (R : Value → Heap → Prop) (v : Value) (s' : Shared) : Prop :=
  ∃ h' tk', s' = { s with heap := h', toks := tk' } ∧ s.heap.StaysIn h' ∧ R v h'

section
variable {prog : Program} {w : World} {A : Around} {E : Value → Shared → Prop} {s : Shared} {K : Frag} {mg mb : Str → Option Value} {p : Program} {loose : List Str} {mean : ExcName → Option Value} {Q : Value → Shared → Prop}
  {name qual : Str} {params : Arguments} {body : List Stmt} {scope : Scope} {dV kV doc pm cdv ct oc : Value} {an od : Option Addr} {osl : Array (Option Value)} {f : Addr} {vals : List Value} {binds : List (Str × Value)}

theorem enter (T : Top p loose mean mg mb s.heap) (X : K.In s.heap) 
    (ho : K.lookup f = some ⟨oc, od, .func (fnOf name qual params body scope dV kV doc pm an cdv ct), osl⟩) (hcd : codeIn K cdv qual = true) (hroom : A.depth < recursionLimit)
    (hbind : BindsTo s (fnOf name qual params body scope dV kV doc pm an cdv ct) ⟨vals, []⟩ binds) (hloc : ∀ y ∈ binds, scope.names.lookup y.1 = some .local)
    (h : ∀ L' h₁, Fr s.heap L' h₁ (fun y => binds.reverse.lookup y) → News s.heap L' h₁ [] →
      wpAny (model prog w) (A.deeper (envOf qual scope L' f cdv)) (execs body (envOf qual scope L' f cdv))
        (fun fl s' => Q (match fl with | .ret v => v | _ => .none) s') (fun _ _ => False)
        { s with heap := h₁, toks := s.toks + binds.length })
    (hco : scope.isCoroutine = false) (hgen : scope.isGenerator = false) (hk : scope.kind = .function)
    (hcell : ∀ x ∈ scope.names, x.2 ≠ .cell) : wpAny (model prog w) A (call (.ref f) vals) Q E s := by
  refine wpAny_call (codeAny_call_def (fd := fnOf name qual params body scope dV kV doc pm an cdv ct) (body := body) (binds := binds) hroom (X _ _ ho) rfl T.nolimit (codeRec_of X hcd) rfl hbind hcell hloc (fun h₁ hns hk₁ => ?_) hco hgen hk)
  exact wpAny_mono (h _ h₁ ⟨hns, hk₁, Nat.le_refl _⟩ News.nil) (fun _ _ q => q) (fun _ _ q => q.elim)
end
def over (ps : List (Str × Value)) (u : Str → Option Value) (y : Str) : Option Value :=
  match ps.lookup y with
  | some v => some v
  | none => u y
theorem over_eq {ps : List (Str × Value)} {m : Str → Option Value} (h : ∀ p ∈ ps, m p.1 = some p.2) : over ps m = m := by
  funext y
  unfold over
  split
  · rename_i v e
    induction ps with
    | nil => cases e
    | cons p r ih =>
      obtain ⟨a, b⟩ := p
      rw [List.lookup_cons] at e
      split at e
      · rename_i hy
        cases e
        rw [show y = a from by simpa using hy]
        exact (h _ (.head _)).symm
      · exact ih (fun p hp => h p (.tail _ hp)) e
  · rfl
structure Rm (A : Around) (n : Nat) : Prop where
  hd : A.handled = none
  dep : A.depth + n ≤ 900
  un : A.units + 10 * n ≤ 9000
theorem Rm.deeper {A : Around} {n : Nat} {env : Env} (h : Rm A (n + 1)) : Rm (A.deeper env) n :=
  ⟨h.hd, by show A.depth + 1 + n ≤ 900; have := h.dep; omega, by show A.units + 3 + 10 * n ≤ 9000; have := h.un; omega⟩
theorem Rm.le {A : Around} {n k : Nat} (h : Rm A n) (hk : k ≤ n) : Rm A k := ⟨h.hd, by have := h.dep; omega, by have := h.un; omega⟩
theorem Rm.in1 {A : Around} {n : Nat} (h : Rm A (n + 1)) : Rm A.in1 n :=
  ⟨h.hd, by show A.depth + n ≤ 900; have := h.dep; omega, by show A.units + 1 + 10 * n ≤ 9000; have := h.un; omega⟩
theorem Rm.room {A : Around} {n : Nat} (h : Rm A n) : A.depth < recursionLimit := by have := h.dep; show A.depth < 1000; omega
theorem Rm.room_deeper {A : Around} {n : Nat} {env : Env} (h : Rm A n) : (A.deeper env).depth < recursionLimit := by have := h.dep; show A.depth + 1 < 1000; omega
theorem Rm.units {A : Around} {n : Nat} (h : Rm A n) : A.units < cLine := by have := h.un; show A.units < 9900; omega
abbrev NoE : Value → Shared → Prop := fun _ _ => False
section
variable {M : Model} {A : Around} {α : Type} {t : Sem α} {Q : α → Shared → Prop} {s : Shared}
theorem anyE {E : Value → Shared → Prop} (h : wpAny M A t Q NoE s) : wpAny M A t Q E s := wpAny_mono h (fun _ _ x => x) fun _ _ x => x.elim
end
section
variable {prog : Program} {w : World} {A : Around} {s : Shared} {env : Env} {g : Heap} {L : Addr} {Q : Flow → Shared → Prop}
def WEnd {σ : Type} (g : Heap) (L : Addr) (s : Shared) (ps : σ → List (Str × Value)) (P : σ → Heap → Prop) (μ : σ → Nat) (Q : Flow → Shared → Prop) (n : Nat) (f : Flow) (s₃ : Shared) : Prop :=
  match f with
  | .next | .cont => ∃ c h' tk m', s₃ = { s with heap := h', toks := tk } ∧ Fr g L h' m' ∧ (∀ p ∈ ps c, m' p.1 = some p.2) ∧ P c h' ∧ μ c < n
  | .brk => Q .next s₃
  | .ret v => Q (.ret v) s₃
theorem while_K {σ : Type} {test : Expr} {body : List Stmt} {pos : Pos} {m : Str → Option Value} (ps : σ → List (Str × Value)) (P : σ → Heap → Prop) (μ : σ → Nat) (c₀ : σ)
    (F : Fr g L s.heap m) (hk : ∀ p ∈ ps c₀, m p.1 = some p.2) (h0 : P c₀ s.heap)
    (turn : ∀ c u h tk, P c h → Fr g L h (over (ps c) u) →
      wpAny (model prog w) A (isTrue test env (eval test env)) (fun b s₂ =>
        if b = true then wpAny (model prog w) A (execs body env) (WEnd g L s ps P μ Q (μ c)) NoE s₂ else Q .next s₂) NoE { s with heap := h, toks := tk }) :
    wpAny (model prog w) A (exec (.While test body [] pos) env) Q NoE s := by
  refine wpAny_While (codeAny_whileLoop (fun n s' => ∃ c h tk m', s' = { s with heap := h, toks := tk } ∧ Fr g L h m' ∧ (∀ p ∈ ps c, m' p.1 = some p.2) ∧ P c h ∧ μ c = n) ?_ (μ c₀) ⟨c₀, s.heap, s.toks, m, rfl, F, hk, h0, rfl⟩)
  rintro n s' ⟨c, h, tk, m', rfl, F', hk', hp, rfl⟩
  have F₂ : Fr g L h (over (ps c) m') := by rw [over_eq hk']; exact F'
  refine wpAny_mono (turn c m' h tk hp F₂) (fun b s₂ h₂ => ?_) fun _ _ x => x.elim
  cases b with
  | false =>
    simp only [Bool.false_eq_true, if_false] at h₂ ⊢
    exact wpAny_execs_nil h₂
  | true =>
    simp only [if_true] at h₂ ⊢
    refine wpAny_mono h₂ (fun f s₃ h₃ => ?_) fun _ _ x => x.elim
    cases f with
    | next =>
      obtain ⟨c', h', tk', m'', rfl, F'', hk'', hp'', hm⟩ := h₃
      exact ⟨μ c', hm, c', h', tk', m'', rfl, F'', hk'', hp'', rfl⟩
    | cont =>
      obtain ⟨c', h', tk', m'', rfl, F'', hk'', hp'', hm⟩ := h₃
      exact ⟨μ c', hm, c', h', tk', m'', rfl, F'', hk'', hp'', rfl⟩
    | brk => exact h₃
    | ret v => exact h₃
end
/-- a mark that stops the walk -/
structure Stop (p : Prop) : Prop where
  out : p
/-- a contract of a def: from any heap in which P holds -/
def Sp (w : World) (f : Addr) (n : Nat) (vs : List Value) (P : Heap → Prop) (R : Heap → Value → Heap → Prop) : Prop :=
  ∀ (A : Around) (s : Shared) (mean : ExcName → Option Value) (mg mb : Str → Option Value), Rm A n → (hd.heap_1 w.params).In s.heap → Top hv (looseW hv []) mean mg mb s.heap → P s.heap →
    wpAny (model PySem.Challenge.rw_sa0081_01.row.prog w) A (call (.ref f) vs) (Ret s (R s.heap)) NoE s
theorem Sp.use {w : World} {f : Addr} {n : Nat} {vs : List Value} {P : Heap → Prop} {R : Heap → Value → Heap → Prop} {A : Around} {s : Shared} {mean : ExcName → Option Value} {mg mb : Str → Option Value} {h₀ : Heap} {L : Addr} {m : Str → Option Value}
    {Q E : Value → Shared → Prop} (S : Sp w f n vs P R) (F : Fr h₀ L s.heap m) (X : (hd.heap_1 w.params).In h₀) (T : Top hv (looseW hv []) mean mg mb h₀) (r : Rm A n) (hP : P s.heap)
    (k : ∀ v h' tk', s.heap.StaysIn h' → Fr h₀ L h' m → R s.heap v h' → Q v { s with heap := h', toks := tk' }) :
    wpAny (model PySem.Challenge.rw_sa0081_01.row.prog w) A (call (.ref f) vs) Q E s := by
  refine wpAny_mono (S A s mean mg mb r (X.keeps F.keep) (T.keeps F.keep) hP) ?_ (fun _ _ x => x.elim)
  rintro v s' ⟨h', tk', rfl, st, hR⟩
  exact k v h' tk' st (F.keeps st) hR
theorem Sp.def {w : World} {f : Addr} {n : Nat} {vs : List Value} {P : Heap → Prop} {R : Heap → Value → Heap → Prop}
    {name qual : Str} {params : Arguments} {body : List Stmt} {scope : Scope} {dV kV doc pm cdv ct oc : Value} {an od : Option Addr} {osl : Array (Option Value)} (binds : List (Str × Value))
    (ho : (hd.heap_1 w.params).lookup f = some ⟨oc, od, .func (fnOf name qual params body scope dV kV doc pm an cdv ct), osl⟩) (hcd : codeIn (hd.heap_1 w.params) cdv qual = true)
    (hbind : bindArgs (fnOf name qual params body scope dV kV doc pm an cdv ct) ⟨vs, []⟩ = pure binds) (hloc : ∀ y ∈ binds, scope.names.lookup y.1 = some .local)
    (hco : scope.isCoroutine = false) (hgen : scope.isGenerator = false) (hk : scope.kind = .function) (hcell : ∀ x ∈ scope.names, x.2 ≠ .cell)
    (h : ∀ (dp un : Nat) (fr : Option (List Env)) (gd : Option (List Code)) (s : Shared) (mean : ExcName → Option Value) (mg mb : Str → Option Value) (L : Addr) (h₁ : Heap) (tk : Nat), Rm { handled := none, depth := dp, frames := fr, guards := gd, units := un } (n + 1) →
      (hd.heap_1 w.params).In s.heap → Top hv (looseW hv []) mean mg mb s.heap → P s.heap → Fr s.heap L h₁ (fun y => binds.reverse.lookup y) → News s.heap L h₁ [] →
      wpAny (model PySem.Challenge.rw_sa0081_01.row.prog w) (Around.deeper { handled := none, depth := dp, frames := fr, guards := gd, units := un } (envOf qual scope L f cdv)) (execs body (envOf qual scope L f cdv))
        (fun fl s' => Ret s (R s.heap) (match fl with | .ret v => v | _ => .none) s') NoE { s with heap := h₁, toks := tk }) : Sp w f (n + 1) vs P R := by
  intro A s mean mg mb rm X T hP
  obtain ⟨hdl, dp, fr, gd, un⟩ := A
  obtain rfl : hdl = none := rm.hd
  exact enter T X ho hcd rm.room (BindsTo.of_eq hbind) hloc (fun L h₁ F N => h dp un fr gd s mean mg mb L h₁ _ rm X T hP F N) hco hgen hk hcell
theorem ret_mono {s s₂ : Shared} {h : Heap} {tk : Nat} {R R' : Value → Heap → Prop} {v : Value} (e : s₂ = { s with heap := h, toks := tk }) (st : s.heap.StaysIn h) (h' : ∀ h', h.StaysIn h' → R v h' → R' v h') {s' : Shared} (x : Ret s₂ R v s') : Ret s R' v s' := by
  subst e
  obtain ⟨h₃, tk₃, rfl, st₃, r⟩ := x
  exact ⟨h₃, tk₃, rfl, fun b o e => st₃ b o (st b o e), h' _ st₃ r⟩
section
example (w : World) : (hd.heap_1 w.params).In (default : Heap) → PySem.Challenge.rw_sa0081_01.Holds → True := by (k_fill; exact fun _ _ => trivial)
local macro_rules | `(tactic| walk_at "my def") => `(tactic| ((case ho => k_is); (case hc => k_is); (case hb => exact rfl); (case hl => exact locs rfl); (case c4 => decide); (case c1 => exact rfl); (case c2 => exact rfl); (case c3 => exact rfl)))
local macro_rules | `(tactic| walk_at "exec While") => `(tactic| refine Stop.out ?_)
local macro_rules | `(tactic| walk_at "my steps") => `(tactic| repeat' (first | (k_unfold; (try dsimp only)) | (walk1; (all_goals try dsimp only)) | (dsimp only; walk1)))
local macro_rules | `(tactic| walk_at "my keys") => `(tactic| first | exact List.forall_mem_nil _ | (refine' List.forall_mem_cons.mpr ⟨?ka, ?kb⟩; (case ka => exact rfl); (case kb => walk_at "my keys")))
theorem gcd_step (a b : Int) (hb : 0 < b) : Int.gcd b (a.fmod b) = Int.gcd a b := by
  rw [Int.fmod_eq_emod_of_nonneg _ (Int.le_of_lt hb), Int.gcd_comm a b]
  have h : a % b = a - b * (a / b) := by have := Int.emod_def a b; omega
  rw [h]
  simp
theorem gcd_spec (w : World) (x y : Int) (tx ty : Tok) : Sp w 41 1 [.int x tx, .int y ty] (fun _ => True) (fun _ v _ => ∃ t, v = .int (Int.gcd x y) t) := by
  k_dflt (refine' Sp.def [(Str.ofString "a", .int x tx), (Str.ofString "b", .int y ty)] ?ho ?hc ?hb ?hl ?c1 ?c2 ?c3 ?c4 ?_)
  walk_at "my def"
  intro dp un fr gd s mean mg mb L h₁ tk rm X T _ F N
  k_fold
  walk_at "my steps"
  rename Fr _ _ _ _ => F'
  refine' Stop.mk (while_K (σ := Int × Int × Tok × Tok) (fun c => [(Str.ofString "a", .int c.1 c.2.2.1), (Str.ofString "b", .int c.2.1 c.2.2.2)])
    (fun c _ => 0 ≤ c.1 ∧ 0 ≤ c.2.1 ∧ Int.gcd c.1 c.2.1 = Int.gcd x y) (fun c => c.2.1.toNat) (if x < 0 then -x else x, if y < 0 then -y else y, _, _) F' ?hk ?h0 ?turn)
  case hk => walk_at "my keys"
  case h0 =>
    dsimp only
    refine ⟨by split <;> omega, by split <;> omega, ?_⟩
    show Nat.gcd _ _ = Nat.gcd _ _
    congr 1 <;> (split <;> omega)
  case turn =>
    rintro ⟨a, b, ta, tb⟩ u h tk ⟨ha, hb, hg⟩ F2
    have N2 : News s.heap L h [] := News.nil
    dsimp only at ha hb hg F2
    clear F'
    walk_at "my steps"
    · rename Fr _ _ _ _ => F3
      rename b ≠ 0 => hne
      have hpos : 0 < b := by omega
      refine' ⟨(b, a.fmod b, _, _), _, _, _, rfl, F3, ?hk, ⟨hb, Int.fmod_nonneg_of_pos _ hpos, (gcd_step a b hpos).trans hg⟩, ?hm⟩
      case hk => walk_at "my keys"
      case hm =>
        have := Int.fmod_lt_of_pos a hpos
        have := Int.fmod_nonneg_of_pos a hpos
        dsimp only
        omega
    · rename b = 0 => hz
      subst hz
      refine' ⟨_, _, rfl, F2.keep, _, _⟩
      · exact ta
      · rw [← hg, Int.gcd_zero_right]
        congr 1
        omega
end
abbrev Q2 := Int × Int
def RatAt (h : Heap) (v : Value) (q : Q2) : Prop := ∃ t tn td, v = .ref t ∧ IsTup h t #[.int q.1 tn, .int q.2 td]
def RatsAt (h : Heap) : List Value → List Q2 → Prop
  | [], [] => True
  | v :: vs, q :: qs => RatAt h v q ∧ RatsAt h vs qs
  | _, _ => False
abbrev lstO (vs : List Value) (n : Nat) : Obj := { cls := .type "list", data := .seq vs.toArray n }
def PolyAt (h : Heap) (v : Value) (p : List Q2) : Prop := ∃ l n vs, v = .ref l ∧ h.get? l = some (lstO vs n) ∧ RatsAt h vs p
/-- a new list of ratios -/
def PolyNew (b h : Heap) (v : Value) (p : List Q2) : Prop := ∃ l n vs, v = .ref l ∧ b.get? l = none ∧ h.get? l = some (lstO vs n) ∧ RatsAt h vs p
def RatNew (b h : Heap) (v : Value) (q : Q2) : Prop := ∃ t tn td, v = .ref t ∧ b.get? t = none ∧ IsTup h t #[.int q.1 tn, .int q.2 td]
theorem RatNew.at {b h : Heap} {v : Value} {q : Q2} (x : RatNew b h v q) : RatAt h v q := let ⟨t, a, c, e, _, r⟩ := x; ⟨t, a, c, e, r⟩
theorem none_down {b b' : Heap} {t : Addr} (st : b.StaysIn b') (x : b'.get? t = none) : b.get? t = none := by
  cases e : b.get? t with
  | none => rfl
  | some o => rw [st _ _ e] at x; cases x
theorem RatNew.down {b b' h : Heap} {v : Value} {q : Q2} (st : b.StaysIn b') (x : RatNew b' h v q) : RatNew b h v q := let ⟨t, a, c, e, f, r⟩ := x; ⟨t, a, c, e, none_down st f, r⟩
theorem PolyNew.down {b b' h : Heap} {v : Value} {p : List Q2} (st : b.StaysIn b') (x : PolyNew b' h v p) : PolyNew b h v p := let ⟨l, n, vs, e, f, r⟩ := x; ⟨l, n, vs, e, none_down st f, r⟩
theorem PolyNew.at {b h : Heap} {v : Value} {p : List Q2} (x : PolyNew b h v p) : PolyAt h v p := let ⟨l, n, vs, e, _, r⟩ := x; ⟨l, n, vs, e, r⟩
theorem RatAt.keeps {h h' : Heap} {v : Value} {q : Q2} (x : RatAt h v q) (k : h.StaysIn h') : RatAt h' v q := let ⟨t, a, b, e, r⟩ := x; ⟨t, a, b, e, r.keeps k⟩
theorem RatsAt.keeps {h h' : Heap} : ∀ {vs : List Value} {p : List Q2}, RatsAt h vs p → h.StaysIn h' → RatsAt h' vs p
  | [], [], _, _ => trivial
  | _ :: _, _ :: _, x, k => ⟨x.1.keeps k, RatsAt.keeps x.2 k⟩
  | [], _ :: _, x, _ => x.elim
  | _ :: _, [], x, _ => x.elim
theorem RatsAt.length {h : Heap} : ∀ {vs : List Value} {p : List Q2}, RatsAt h vs p → vs.length = p.length
  | [], [], _ => rfl
  | _ :: _, _ :: _, x => congrArg (· + 1) (RatsAt.length x.2)
  | [], _ :: _, x => x.elim
  | _ :: _, [], x => x.elim
theorem PolyAt.keeps {h h' : Heap} {v : Value} {p : List Q2} (x : PolyAt h v p) (k : h.StaysIn h') : PolyAt h' v p := let ⟨l, n, vs, e, g, r⟩ := x; ⟨l, n, vs, e, k _ _ g, r.keeps k⟩
theorem RatsAt.get {h : Heap} : ∀ {vs : List Value} {p : List Q2} {i : Nat} {v : Value}, RatsAt h vs p → vs[i]? = some v → ∃ q, p[i]? = some q ∧ RatAt h v q
  | _ :: _, _ :: _, 0, _, x, e => by cases e; exact ⟨_, rfl, x.1⟩
  | _ :: _, _ :: _, i + 1, _, x, e => by
    have := RatsAt.get (i := i) x.2 (by simpa using e)
    simpa using this
  | [], _, _, _, _, e => by simp at e
  | _ :: _, [], _, _, x, _ => x.elim
theorem RatsAt.append {h : Heap} : ∀ {vs ws : List Value} {p q : List Q2}, RatsAt h vs p → RatsAt h ws q → RatsAt h (vs ++ ws) (p ++ q)
  | [], _, [], _, _, y => y
  | _ :: _, _, _ :: _, _, x, y => ⟨x.1, RatsAt.append x.2 y⟩
  | [], _, _ :: _, _, x, _ => x.elim
  | _ :: _, _, [], _, x, _ => x.elim
theorem RatsAt.take {h : Heap} : ∀ {vs : List Value} {p : List Q2} (k : Nat), RatsAt h vs p → RatsAt h (vs.take k) (p.take k)
  | _, _, 0, _ => trivial
  | [], [], _ + 1, _ => trivial
  | _ :: _, _ :: _, k + 1, x => ⟨x.1, RatsAt.take k x.2⟩
  | [], _ :: _, _ + 1, x => x.elim
  | _ :: _, [], _ + 1, x => x.elim
theorem RatsAt.set {h : Heap} : ∀ {vs : List Value} {p : List Q2} (k : Nat) {v : Value} {q : Q2}, RatsAt h vs p → RatAt h v q → RatsAt h (vs.set k v) (p.set k q)
  | [], [], _, _, _, _, _ => trivial
  | _ :: _, _ :: _, 0, _, _, x, y => ⟨y, x.2⟩
  | _ :: _, _ :: _, k + 1, _, _, x, y => ⟨x.1, RatsAt.set k x.2 y⟩
  | [], _ :: _, _, _, _, x, _ => x.elim
  | _ :: _, [], _, _, _, x, _ => x.elim
theorem RatsAt.repl {h : Heap} {v : Value} {q : Q2} (x : RatAt h v q) : ∀ k, RatsAt h (List.replicate k v) (List.replicate k q)
  | 0 => trivial
  | k + 1 => ⟨x, RatsAt.repl x k⟩
/-! pure functions -/
def okI (x : Int) : Bool := decide (x.natAbs < 2 ^ 60)
def okR (q : Q2) : Bool := okI q.1 && okI q.2
def ratO (t b : Int) : Option Q2 := if b = 0 then none else let g : Int := if 0 < b then Int.gcd t b else 0 - Int.gcd t b; some (t.fdiv g, b.fdiv g)
def raddO (a b : Q2) : Option Q2 := if okR a && okR b then ratO (a.1 * b.2 + b.1 * a.2) (a.2 * b.2) else none
def rmulO (a b : Q2) : Option Q2 := if okR a && okR b then ratO (a.1 * b.1) (a.2 * b.2) else none
def rdivO (a b : Q2) : Option Q2 := if okR a && okR b then ratO (a.1 * b.2) (a.2 * b.1) else none
def rnegO (a : Q2) : Q2 := (0 - a.1, a.2)
def rinvO (a : Q2) : Option Q2 := ratO a.2 a.1
theorem okI.lt {x : Int} (h : okI x = true) : x.natAbs < 2 ^ 60 := of_decide_eq_true h
theorem okI.mul {x : Int} (h : okI x = true) (y : Int) : IntMulOk x y := .of_left (intBits_le_64 (by have := okI.lt h; omega) (by have := okI.lt h; omega))
theorem okR.fst {q : Q2} (h : okR q = true) : okI q.1 = true := by unfold okR at h; simp at h; exact h.1
theorem okR.snd {q : Q2} (h : okR q = true) : okI q.2 = true := by unfold okR at h; simp at h; exact h.2
theorem News.stays {h₀ h h' : Heap} {L : Addr} {news : List (Addr × Obj)} (N : News h₀ L h news) (k : h.StaysIn h') : News h₀ L h' news := fun p hp => ⟨k _ _ (N p hp).1, (N p hp).2⟩
theorem gcd_bound (t b : Int) (hb : b ≠ 0) : 0 < (Int.gcd t b : Int) := by
  have : 0 < Int.gcd t b := Int.gcd_pos_of_ne_zero_right _ hb
  omega
/-- use a contract, with the ledger -/
theorem Sp.use2 {w : World} {f : Addr} {n : Nat} {vs : List Value} {P : Heap → Prop} {R : Heap → Value → Heap → Prop} (S : Sp w f n vs P R) {A : Around} {s : Shared} {mean : ExcName → Option Value} {mg mb : Str → Option Value} {h₀ : Heap} {L : Addr} {m : Str → Option Value} {news : List (Addr × Obj)} {env : Env}
    {Q E : Value → Shared → Prop} (r : Rm A (n + 1)) (X : (hd.heap_1 w.params).In h₀) (T : Top hv (looseW hv []) mean mg mb h₀) (F : Fr h₀ L s.heap m) (N : News h₀ L s.heap news) (hP : P s.heap)
    (k : ∀ v h' tk', s.heap.StaysIn h' → h₀.StaysIn s.heap → Fr h₀ L h' m → News h₀ L h' news → R s.heap v h' → Q v { s with heap := h', toks := tk' }) :
    wpAny (model PySem.Challenge.rw_sa0081_01.row.prog w) (A.deeper env) (call (.ref f) vs) Q E s :=
  S.use F X T r.deeper hP fun v h' tk' st F' hR => k v h' tk' st F.keep F' (News.stays N st) hR
section
variable {prog : Program} {w : World} {A : Around} {E : Value → Shared → Prop} {s : Shared} {a b : Int} {t u : Tok} {Q : Value → Shared → Prop}
theorem fdiv_K (hb : b ≠ 0) (hl : b.natAbs < 2 ^ 200) (h : Q (.int (a.fdiv b) s.toks) { s with toks := s.toks + 1 }) : wpAny (model prog w) A (binaryOp .FloorDiv (.int a t) (.int b u)) Q E s := by
  refine AutoIntOps.floordiv_1 (by simpa using hb) ?_ h
  rw [PyProof.noPylong_of_log2]
  · decide
  · have : b.natAbs.log2 < 200 := (Nat.log2_lt (by omega)).mpr hl
    omega
end
theorem RatAt.ofNews {h₀ h : Heap} {L : Addr} {news : List (Addr × Obj)} {t : Addr} {a b : Int} {ta tb : Tok} {n : Nat} (N : News h₀ L h news) (hm : (t, { cls := .type "tuple", data := .seq #[.int a ta, .int b tb] n }) ∈ news) {q : Q2} (e : q = (a, b)) : RatAt h (.ref t) q := by
  subst e
  exact ⟨t, ta, tb, rfl, _, (N _ hm).1, rfl, n, rfl⟩
theorem RatNew.ofNews {h₀ h : Heap} {L : Addr} {news : List (Addr × Obj)} {t : Addr} {a b : Int} {ta tb : Tok} {n : Nat} (N : News h₀ L h news) (hm : (t, { cls := .type "tuple", data := .seq #[.int a ta, .int b tb] n }) ∈ news) {q : Q2} (e : q = (a, b)) : RatNew h₀ h (.ref t) q := by
  subst e
  exact ⟨t, ta, tb, rfl, (N _ hm).2.2, _, (N _ hm).1, rfl, n, rfl⟩
theorem gcd_le_r (t b : Int) (hb : b ≠ 0) : (Int.gcd t b : Int).natAbs ≤ b.natAbs := by
  have := Int.gcd_le_natAbs_right t hb
  omega
theorem mul_bound {a b : Int} (ha : okI a = true) (hb : okI b = true) : (a * b).natAbs < 2 ^ 130 := by
  rw [Int.natAbs_mul]
  have := Nat.mul_lt_mul'' (okI.lt ha) (okI.lt hb)
  exact Nat.lt_of_lt_of_le this (by decide)
local macro_rules | `(tactic| walk_at "my mem") => `(tactic| first | assumption | exact List.mem_cons_self | (refine List.mem_append_right _ ?_; walk_at "my mem") | (refine List.mem_append_left _ ?_; walk_at "my mem") | (refine List.mem_cons_of_mem _ ?_; walk_at "my mem"))
local macro_rules | `(tactic| walk_at "my or") => `(tactic| first | assumption | (refine Or.inl ?_; walk_at "my or") | (refine Or.inr ?_; walk_at "my or"))
section
variable {prog : Program} {w : World} {A : Around} {E : Value → Shared → Prop} {s : Shared} {h₀ : Heap} {L l : Addr} {m : Str → Option Value} {news : List (Addr × Obj)} {vs : List Value} {n : Nat} {k : Int} {t u : Tok}
theorem lst_is {h : Heap} (e : h.get? l = some (lstO vs n)) : h.IsList l vs.toArray := ⟨_, e, rfl, n, rfl⟩
theorem lstB {h : Heap} (F : Fr h₀ L h m) (e : h₀.get? l = some (lstO vs n)) : h.get? l = some (lstO vs n) := F.keep _ _ e
theorem lstN {h : Heap} (N : News h₀ L h news) (hm : (l, lstO vs n) ∈ news) : h.get? l = some (lstO vs n) := (N _ hm).1
theorem len_L {Q : Value → Shared → Prop} (hl : s.heap.get? l = some (lstO vs n)) (hz : vs.length < 2 ^ 62) (h : Q (.int vs.length (s.toks + 1)) { s with toks := s.toks + 1 + 1 }) :
    wpAny (model prog w) A (call (.builtin "len") [.ref l]) Q E s :=
  len_list (lst_is hl) (by simp; omega) (by simpa using h)
theorem item_L {value slice : PySem.Expr} {Q : Value → Shared → Prop} (hl : s.heap.get? l = some (lstO vs n)) (h0 : 0 ≤ k) (h1 : k < vs.length) (hz : k < 2 ^ 62) (h : ∀ v, vs[k.toNat]? = some v → Q v s)
    (hs : subscripted slice false (.ref l) (.int k u) = operate [.ref l, .int k u] (getItem (.ref l) (.int k u)) := by with_unfolding_all rfl) :
    wpAny (model prog w) A (subscriptTail value slice (.ref l) (.int k u)) Q E s := by
  have hk : k.toNat < vs.length := by omega
  exact tail_any (lst_is hl).typeIs slot_list_getitem.lookup (wpAny_getItem_list (lst_is hl) h0 (by omega) (x := vs[k.toNat]) (by simp [hk]) (h _ (by simp [hk]))) hs
theorem itemN_L {value slice : PySem.Expr} {Q : Value → Shared → Prop} (hl : s.heap.get? l = some (lstO vs n)) (h0 : k < 0) (h1 : -(vs.length : Int) ≤ k) (hz : -(2 ^ 62) < k) (h : ∀ v, vs[(k + vs.length).toNat]? = some v → Q v s)
    (hs : subscripted slice false (.ref l) (.int k u) = operate [.ref l, .int k u] (getItem (.ref l) (.int k u)) := by with_unfolding_all rfl) :
    wpAny (model prog w) A (subscriptTail value slice (.ref l) (.int k u)) Q E s := by
  have hk : (k + vs.length).toNat < vs.length := by omega
  exact tail_any (lst_is hl).typeIs slot_list_getitem.lookup (wpAny_getItem_list_neg (lst_is hl) h0 (by simpa using h1) (by omega) (x := vs[(k + vs.length).toNat]) (by simp [hk]) (h _ (by simp [hk]))) hs
theorem get_L {Q : Value → Shared → Prop} (hl : s.heap.get? l = some (lstO vs n)) (h0 : 0 ≤ k) (h1 : k < vs.length) (hz : k < 2 ^ 62) (h : ∀ v, vs[k.toNat]? = some v → Q v s) :
    wpAny (model prog w) A (getItem (.ref l) (.int k u)) Q E s := by
  have hk : k.toNat < vs.length := by omega
  exact wpAny_getItem_list (lst_is hl) h0 (by omega) (x := vs[k.toNat]) (by simp [hk]) (h _ (by simp [hk]))
theorem slicePick_m1 (vs : List Value) (h : 0 < vs.length) : slicePick vs.toArray none (some (-1)) none = (vs.take (vs.length - 1)).toArray := by
  have e : sliceBounds none (some (-1)) none vs.toArray.size = sliceBounds none (some ((vs.length - 1 : Nat) : Int)) none vs.toArray.size := by
    simp only [sliceBounds, Option.getD_none, List.size_toArray]
    have h1 : ¬ (((vs.length - 1 : Nat) : Int) < 0) := by omega
    have h2 : ((-1 : Int) < 0) := by omega
    simp only [h1, h2, if_false, if_true]
    congr 2
    have : (-1 : Int) + vs.length = ((vs.length - 1 : Nat) : Int) := by omega
    rw [this]
  have e2 : slicePick vs.toArray none (some (-1)) none = slicePick vs.toArray none (some ((vs.length - 1 : Nat) : Int)) none := by
    unfold slicePick
    rw [e]
  rw [e2, slicePick_upto']
theorem slice_L {value slice : PySem.Expr} {Q : Value → Shared → Prop} (F : Fr h₀ L s.heap m) (N : News h₀ L s.heap news) (hl : s.heap.get? l = some (lstO vs n)) (h0 : 0 ≤ k) (hz : vs.length ≤ 16384)
    (h : ∀ D h', Fr h₀ L h' m → News h₀ L h' ((D, lstO (vs.take k.toNat) 0) :: news) → (∀ p ∈ news, p.1 < D) → Q (.ref D) { s with heap := h' })
    (hs : subscripted slice false (.ref l) (.ref s.heap.objs.size) = operate [.ref s.heap.objs.size, .ref l] (getItem (.ref l) (.ref s.heap.objs.size)) := by with_unfolding_all rfl)
    (ht : ∀ r, letTemporaryGo value (.ref l) r = pure () := by intro _; with_unfolding_all rfl) :
    wpAny (model prog w) A (subscriptTail value slice (.ref l) (.ref s.heap.objs.size)) Q E { s with heap := s.heap.push { cls := .type "slice", data := .fields #[.none, .int k t, .none] } } := by
  refine slice_list (hsz := by rw [List.size_toArray, sizeLine_eq]; omega) F N (lst_is hl) .none (.int k t) (fun h' F' N' => ?_) hs ht
  have e : slicePick vs.toArray none (some k) none = (vs.take k.toNat).toArray := by
    have ek : k = (k.toNat : Int) := by omega
    rw [ek, slicePick_upto']
    simp
    rw [show max k 0 = k by omega]
  rw [e] at N'
  exact h _ h' F' N' fun p hp => Nat.lt_succ_of_lt (Heap.lt_size (N p hp).1)
theorem sliceN_L {value slice : PySem.Expr} {Q : Value → Shared → Prop} (F : Fr h₀ L s.heap m) (N : News h₀ L s.heap news) (hl : s.heap.get? l = some (lstO vs n)) (h0 : 0 < vs.length) (hz : vs.length ≤ 16384)
    (h : ∀ D h', Fr h₀ L h' m → News h₀ L h' ((D, lstO (vs.take (vs.length - 1)) 0) :: news) → (∀ p ∈ news, p.1 < D) → Q (.ref D) { s with heap := h' })
    (hs : subscripted slice false (.ref l) (.ref s.heap.objs.size) = operate [.ref s.heap.objs.size, .ref l] (getItem (.ref l) (.ref s.heap.objs.size)) := by with_unfolding_all rfl)
    (ht : ∀ r, letTemporaryGo value (.ref l) r = pure () := by intro _; with_unfolding_all rfl) :
    wpAny (model prog w) A (subscriptTail value slice (.ref l) (.ref s.heap.objs.size)) Q E { s with heap := s.heap.push { cls := .type "slice", data := .fields #[.none, .int (-1) t, .none] } } := by
  refine slice_list (hsz := by rw [List.size_toArray, sizeLine_eq]; omega) F N (lst_is hl) .none (.int (-1) t) (fun h' F' N' => ?_) hs ht
  rw [slicePick_m1 _ h0] at N'
  exact h _ h' F' N' fun p hp => Nat.lt_succ_of_lt (Heap.lt_size (N p hp).1)
theorem slice_L' {H : Heap} {g : _} {dr : _} {tk : Nat} {os : _} {value slice : PySem.Expr} {Q : Value → Shared → Prop} (F : Fr h₀ L H m) (N : News h₀ L H news) (hl : H.get? l = some (lstO vs n)) (h0 : 0 ≤ k) (hz : vs.length ≤ 16384)
    (h : ∀ D h', Fr h₀ L h' m → News h₀ L h' ((D, lstO (vs.take k.toNat) 0) :: news) → (∀ p ∈ news, p.1 < D) → Q (.ref D) { heap := h', gens := g, drawn := dr, toks := tk, os := os })
    (hs : subscripted slice false (.ref l) (.ref H.objs.size) = operate [.ref H.objs.size, .ref l] (getItem (.ref l) (.ref H.objs.size)) := by with_unfolding_all rfl)
    (ht : ∀ r, letTemporaryGo value (.ref l) r = pure () := by intro _; with_unfolding_all rfl) :
    wpAny (model prog w) A (subscriptTail value slice (.ref l) (.ref H.objs.size)) Q E { heap := H.push { cls := .type "slice", data := .fields #[.none, .int k t, .none] }, gens := g, drawn := dr, toks := tk, os := os } :=
  slice_L (s := { heap := H, gens := g, drawn := dr, toks := tk, os := os }) F N hl h0 hz h hs ht
theorem sliceN_L' {H : Heap} {g : _} {dr : _} {tk : Nat} {os : _} {value slice : PySem.Expr} {Q : Value → Shared → Prop} (F : Fr h₀ L H m) (N : News h₀ L H news) (hl : H.get? l = some (lstO vs n)) (h0 : 0 < vs.length) (hz : vs.length ≤ 16384)
    (h : ∀ D h', Fr h₀ L h' m → News h₀ L h' ((D, lstO (vs.take (vs.length - 1)) 0) :: news) → (∀ p ∈ news, p.1 < D) → Q (.ref D) { heap := h', gens := g, drawn := dr, toks := tk, os := os })
    (hs : subscripted slice false (.ref l) (.ref H.objs.size) = operate [.ref H.objs.size, .ref l] (getItem (.ref l) (.ref H.objs.size)) := by with_unfolding_all rfl)
    (ht : ∀ r, letTemporaryGo value (.ref l) r = pure () := by intro _; with_unfolding_all rfl) :
    wpAny (model prog w) A (subscriptTail value slice (.ref l) (.ref H.objs.size)) Q E { heap := H.push { cls := .type "slice", data := .fields #[.none, .int (-1) t, .none] }, gens := g, drawn := dr, toks := tk, os := os } :=
  sliceN_L (s := { heap := H, gens := g, drawn := dr, toks := tk, os := os }) F N hl h0 hz h hs ht
theorem copy_L {Q : Value → Shared → Prop} (F : Fr h₀ L s.heap m) (N : News h₀ L s.heap news) (hl : s.heap.get? l = some (lstO vs n)) (hz : vs.length ≤ 16384)
    (h : ∀ D c h', Fr h₀ L h' m → News h₀ L h' ((D, lstO vs c) :: news) → (∀ q ∈ news, q.1 < D) → Q (.ref D) { s with heap := h' }) :
    wpAny (model prog w) A (call (.type "list") [.ref l]) Q E s :=
  list_copyK F N (lst_is hl) h (by rw [List.size_toArray, sizeLine_eq]; omega)
theorem foldl_repl (v : Value) : ∀ (k : Nat) (acc : Array Value), List.foldl (fun x1 x2 => x1 ++ x2) acc (List.replicate k #[v]) = acc ++ (List.replicate k v).toArray
  | 0, acc => by simp
  | k + 1, acc => by
    rw [List.replicate_succ, List.foldl_cons, foldl_repl v k, List.replicate_succ]
    apply Array.toList_inj.mp
    simp
theorem mul_L {v : Value} {Q : Value → Shared → Prop} (F : Fr h₀ L s.heap m) (N : News h₀ L s.heap news) (hl : s.heap.get? l = some (lstO [v] n)) (h0 : k ≤ 16384) (h1 : -16384 ≤ k)
    (h : ∀ D h', Fr h₀ L h' m → News h₀ L h' ((D, lstO (List.replicate k.toNat v) 0) :: news) → (∀ q ∈ news, q.1 < D) → Q (.ref D) { s with heap := h' }) :
    wpAny (model prog w) A (binaryOp .Mult (.ref l) (.int k u)) Q E s := by
  refine mul_list (items := [v].toArray) (k := n) F N hl (by omega) (by omega) (by simp; omega) fun h' F' N' => ?_
  have e : (List.foldl (fun x1 x2 => x1 ++ x2) #[] (List.replicate (if ([v].toArray).isEmpty = true then 0 else k.toNat) [v].toArray)) = (List.replicate k.toNat v).toArray := by
    have := foldl_repl v k.toNat #[]
    simpa using this
  rw [e] at N'
  exact h _ h' F' N' fun p hp => Heap.lt_size (N p hp).1
theorem add_L {b : Addr} {ws : List Value} {n2 : Nat} {Q : Value → Shared → Prop} (F : Fr h₀ L s.heap m) (N : News h₀ L s.heap news) (hl : s.heap.get? l = some (lstO vs n)) (hb : s.heap.get? b = some (lstO ws n2)) (hz : vs.length + ws.length ≤ 16384)
    (h : ∀ D h', Fr h₀ L h' m → News h₀ L h' ((D, lstO (vs ++ ws) 0) :: news) → (∀ q ∈ news, q.1 < D) → Q (.ref D) { s with heap := h' }) :
    wpAny (model prog w) A (binaryOp .Add (.ref l) (.ref b)) Q E s :=
  add_lists F N (lst_is hl) (lst_is hb) (fun h' F' N' => h _ h' F' N' fun p hp => Heap.lt_size (N p hp).1) (by rw [sizeLine_eq]; omega)
theorem set_L {D : Addr} {v : Value} {T : List (Addr × Obj)} {Q : Unit → Shared → Prop} (F : Fr h₀ L s.heap m) (N : News h₀ L s.heap ((D, lstO vs n) :: T)) (hT : ∀ p ∈ T, p.1 ≠ D) (h0 : 0 ≤ k) (h1 : k < vs.length) (hz : k < 2 ^ 62)
    (h : ∀ h', Fr h₀ L h' m → News h₀ L h' ((D, lstO (vs.set k.toNat v) n) :: T) → Q () { s with heap := h' }) :
    wpAny (model prog w) A (setItem (.ref D) (.int k t) v) Q E s := by
  have z := N (D, lstO vs n) (.head _)
  refine ki_setAt (items := vs.toArray) (n := n) z.1 h0 (by omega) (by simpa using h1) (h _ (F.change (Heap.SameBut.update ..) z.2.1 z.2.2) ?_)
  refine ki_turn (pre := []) _ N (fun _ h => nomatch h) hT ?_ ?_
  · show vs.toArray.setIfInBounds k.toNat v = (vs.set k.toNat v).toArray
    apply Array.toList_inj.mp
    simp
  · simp
end
theorem RatsAt.get' {h : Heap} {vs : List Value} {p : List Q2} {i : Nat} {v : Value} (x : RatsAt h vs p) (e : vs[i]? = some v) : ∃ q t tn td, p[i]? = some q ∧ v = .ref t ∧ IsTup h t #[.int q.1 tn, .int q.2 td] := by
  obtain ⟨q, hq, t, a, b, r⟩ := x.get e
  exact ⟨q, t, a, b, hq, r⟩
theorem PolyNew.ofNews {h₀ h : Heap} {L l : Addr} {news : List (Addr × Obj)} {vs : List Value} {n : Nat} {p : List Q2} (N : News h₀ L h news) (hm : (l, lstO vs n) ∈ news) (hr : RatsAt h vs p) : PolyNew h₀ h (.ref l) p :=
  ⟨l, n, vs, rfl, (N _ hm).2.2, (N _ hm).1, hr⟩
abbrev Ledger := List (Addr × Obj)
/-- the ledger T (or the base g) bears the ratio q at v -/
def RatL (g : Heap) (T : Ledger) (v : Value) (q : Q2) : Prop := RatAt g v q ∨ ∃ t tn td o, v = .ref t ∧ (t, o) ∈ T ∧ o.cls = .type "tuple" ∧ ∃ n, o.data = .seq #[.int q.1 tn, .int q.2 td] n
def RatsL (g : Heap) (T : Ledger) : List Value → List Q2 → Prop
  | [], [] => True
  | v :: vs, q :: qs => RatL g T v q ∧ RatsL g T vs qs
  | _, _ => False
def Tups (T : Ledger) : Prop := ∀ p ∈ T, p.2.cls = .type "tuple"
theorem Tups.nil : Tups [] := fun _ h => nomatch h
theorem Tups.append {T U : Ledger} (x : Tups T) (y : Tups U) : Tups (T ++ U) := fun p hp => by
  rcases List.mem_append.mp hp with h | h
  · exact x p h
  · exact y p h
section
variable {g h h' : Heap} {L : Addr} {m : Str → Option Value} {T U news : Ledger} {v : Value} {vs ws : List Value} {q : Q2} {p : List Q2}
theorem RatL.at (x : RatL g T v q) (k : g.StaysIn h) (N : News g L h news) (sub : ∀ e ∈ T, e ∈ news) : RatAt h v q := by
  rcases x with x | ⟨t, a, b, o, e, hm, hc, hd⟩
  · exact x.keeps k
  · exact ⟨t, a, b, e, o, (N _ (sub _ hm)).1, hc, hd⟩
theorem RatL.mono (x : RatL g T v q) (sub : ∀ e ∈ T, e ∈ U) : RatL g U v q := by
  rcases x with x | ⟨t, a, b, o, e, hm, r⟩
  · exact .inl x
  · exact .inr ⟨t, a, b, o, e, sub _ hm, r⟩
theorem RatsL.mono : ∀ {vs : List Value} {p : List Q2}, RatsL g T vs p → (∀ e ∈ T, e ∈ U) → RatsL g U vs p
  | [], [], _, _ => trivial
  | _ :: _, _ :: _, x, k => ⟨x.1.mono k, RatsL.mono x.2 k⟩
  | [], _ :: _, x, _ => x.elim
  | _ :: _, [], x, _ => x.elim
theorem RatsL.at : ∀ {vs : List Value} {p : List Q2}, RatsL g T vs p → g.StaysIn h → News g L h news → (∀ e ∈ T, e ∈ news) → RatsAt h vs p
  | [], [], _, _, _, _ => trivial
  | _ :: _, _ :: _, x, k, N, s => ⟨x.1.at k N s, RatsL.at x.2 k N s⟩
  | [], _ :: _, x, _, _, _ => x.elim
  | _ :: _, [], x, _, _, _ => x.elim
theorem RatsL.ofBase : ∀ {vs : List Value} {p : List Q2}, RatsAt g vs p → RatsL g T vs p
  | [], [], _ => trivial
  | _ :: _, _ :: _, x => ⟨.inl x.1, RatsL.ofBase x.2⟩
  | [], _ :: _, x => x.elim
  | _ :: _, [], x => x.elim
theorem RatsL.append : ∀ {vs ws : List Value} {p q : List Q2}, RatsL g T vs p → RatsL g T ws q → RatsL g T (vs ++ ws) (p ++ q)
  | [], _, [], _, _, y => y
  | _ :: _, _, _ :: _, _, x, y => ⟨x.1, RatsL.append x.2 y⟩
  | [], _, _ :: _, _, x, _ => x.elim
  | _ :: _, _, [], _, x, _ => x.elim
theorem RatsL.get : ∀ {vs : List Value} {p : List Q2} {i : Nat} {v : Value}, RatsL g T vs p → vs[i]? = some v → ∃ q, p[i]? = some q ∧ RatL g T v q
  | _ :: _, _ :: _, 0, _, x, e => by cases e; exact ⟨_, rfl, x.1⟩
  | _ :: _, _ :: _, i + 1, _, x, e => by
    have := RatsL.get (i := i) x.2 (by simpa using e)
    simpa using this
  | [], _, _, _, _, e => by simp at e
  | _ :: _, [], _, _, x, _ => x.elim
theorem RatsL.set : ∀ {vs : List Value} {p : List Q2} (k : Nat) {v : Value} {q : Q2}, RatsL g T vs p → RatL g T v q → RatsL g T (vs.set k v) (p.set k q)
  | [], [], _, _, _, _, _ => trivial
  | _ :: _, _ :: _, 0, _, _, x, y => ⟨y, x.2⟩
  | _ :: _, _ :: _, k + 1, _, _, x, y => ⟨x.1, RatsL.set k x.2 y⟩
  | [], _ :: _, _, _, _, x, _ => x.elim
  | _ :: _, [], _, _, _, x, _ => x.elim
theorem RatsL.length : ∀ {vs : List Value} {p : List Q2}, RatsL g T vs p → vs.length = p.length
  | [], [], _ => rfl
  | _ :: _, _ :: _, x => congrArg (· + 1) (RatsL.length x.2)
  | [], _ :: _, x => x.elim
  | _ :: _, [], x => x.elim
theorem RatsL.repl (x : RatL g T v q) : ∀ k, RatsL g T (List.replicate k v) (List.replicate k q)
  | 0 => trivial
  | k + 1 => ⟨x, RatsL.repl x k⟩
theorem ns_ne_seq {h : Heap} {o : Obj} {t : Addr} {xs : Array Value} {n : Nat} (F : Fr g L h m) (e : h.get? t = some o) (d : o.data = .seq xs n) : t ≠ L := by
  rintro rfl
  obtain ⟨o', es, ep, e', d', _⟩ := F.ns
  rw [e] at e'
  cases e'
  rw [d] at d'
  cases d'
/-- a ratio of the heap goes into the ledger -/
theorem RatAt.absorb (x : RatAt h v q) (F : Fr g L h m) (N : News g L h news) : ∃ T, Tups T ∧ News g L h (T ++ news) ∧ RatL g T v q := by
  obtain ⟨t, a, b, rfl, o, e, hc, n, hd⟩ := x
  cases hg : g.get? t with
  | some o' =>
    have e2 := F.keep _ _ hg
    rw [e] at e2
    cases e2
    exact ⟨[], Tups.nil, N, .inl ⟨t, a, b, rfl, o, hg, hc, n, hd⟩⟩
  | none =>
    refine ⟨[(t, o)], ?_, ?_, .inr ⟨t, a, b, o, rfl, .head _, hc, n, hd⟩⟩
    · intro p hp
      rw [List.mem_singleton.mp hp]
      exact hc
    · intro p hp
      rcases List.mem_append.mp hp with hp | hp
      · rw [List.mem_singleton.mp hp]
        exact ⟨e, ns_ne_seq F e hd, hg⟩
      · exact N p hp
theorem RatsAt.absorb : ∀ {vs : List Value} {p : List Q2}, RatsAt h vs p → Fr g L h m → News g L h news → ∃ T, Tups T ∧ News g L h (T ++ news) ∧ RatsL g T vs p
  | [], [], _, _, N => ⟨[], Tups.nil, N, trivial⟩
  | _ :: _, _ :: _, x, F, N => by
    obtain ⟨T, ht, NT, xT⟩ := RatsAt.absorb x.2 F N
    obtain ⟨U, hu, NU, xU⟩ := RatAt.absorb x.1 F NT
    refine ⟨U ++ T, hu.append ht, by rw [List.append_assoc]; exact NU, xU.mono fun e he => List.mem_append_left _ he, xT.mono fun e he => List.mem_append_right _ he⟩
  | [], _ :: _, x, _, _ => x.elim
  | _ :: _, [], x, _, _ => x.elim
/-- a new ratio, with its entry apart from all that stood before -/
theorem RatNew.entry {b : Heap} (x : RatNew b h v q) (F : Fr g L h m) (N : News g L h news) (k : g.StaysIn b) : ∃ e : Addr × Obj, e.2.cls = .type "tuple" ∧ b.get? e.1 = none ∧ News g L h (news ++ [e]) ∧ RatL g [e] v q := by
  obtain ⟨t, a, c, rfl, hb, o, e, hc, n, hd⟩ := x
  refine ⟨(t, o), hc, hb, ?_, .inr ⟨t, a, c, o, rfl, .head _, hc, n, hd⟩⟩
  intro p hp
  rcases List.mem_append.mp hp with hp | hp
  · exact N p hp
  · rw [List.mem_singleton.mp hp]
    exact ⟨e, ns_ne_seq F e hd, none_down k hb⟩
end
section
variable {prog : Program} {w : World} {A : Around} {h₀ : Heap} {L : Addr} {m : Str → Option Value} {env : Env} {elt : PySem.Expr} {x : Str} {scope : Scope} {cl : List (Str × Addr)} {s : Shared} {S : Ledger → Prop} {P : Nat → Value → Prop} {Fin : List Value → Ledger → Prop} {news : Ledger}
def El (h₀ : Heap) (L : Addr) (m : Str → Option Value) (s : Shared) (all : Ledger) (Φ : Value → Heap → Prop) (y : Value) (s₂ : Shared) : Prop :=
  ∃ h' tk', s₂ = { s with heap := h', toks := tk' } ∧ Fr h₀ L h' m ∧ News h₀ L h' all ∧ Φ y h'
theorem comp_rats {n : Nat} (f : Nat → Q2) (hS : ∀ T, S (news ++ T))
    (turn : ∀ i v I oI C oC D m₂ ys T h tk (E' : Value → Shared → Prop), i < n → P i v → LCg.NsObj oC m₂ → m₂ x = some v → Fr h₀ L h m → News h₀ L h ((I, oI) :: (C, oC) :: (D, LCg.lst ys) :: (news ++ T)) → 
      wpAny (model prog w) A (eval elt (compEnvC scope cl C env)) (El h₀ L m { s with heap := h, toks := tk } ((I, oI) :: (C, oC) :: (D, LCg.lst ys) :: (news ++ T)) (fun y h' => RatNew h h' y (f i))) E' { s with heap := h, toks := tk })
    (fin : ∀ T ys, Tups T → RatsL h₀ T ys ((List.range n).map f) → Fin ys (news ++ T)) : LCg.CompRest prog w A h₀ L m env elt x scope cl s S P Fin n 0 [] news := by
  have key : ∀ (j i : Nat) (ys : List Value) (T : Ledger), i + j = n → Tups T → RatsL h₀ T ys ((List.range i).map f) → LCg.CompRest prog w A h₀ L m env elt x scope cl s S P Fin j i ys (news ++ T) := by
    intro j
    induction j with
    | zero =>
      intro i ys T hi hT hy
      obtain rfl : i = n := by omega
      exact LCg.CompRest.zero (fin T ys hT hy)
    | succ j ih =>
      intro i ys T hi hT hy
      refine LCg.CompRest.succ ?_
      intro v I oI C oC D m₂ h tk E' hv hC hx F N off ne
      refine wpAny_mono (turn i v I oI C oC D m₂ ys T h tk E' (by omega) hv hC hx F N) (fun y s₂ hq => ?_) fun _ _ e => e
      obtain ⟨h', tk', rfl, F', N', hy'⟩ := hq
      obtain ⟨e, ec, ef, Ne, re⟩ := RatNew.entry hy' F' N' F.keep
      refine ⟨h', tk', news ++ (T ++ [e]), rfl, F', fun p hp => Ne p ?_, LCg.Off3.of fun p hp => ?_, hS _, ?_⟩
      · rw [← List.append_assoc] at hp
        simpa [List.append_assoc] using hp
      · rw [← List.append_assoc] at hp
        rcases List.mem_append.mp hp with hp | hp
        · exact off.mem p hp
        · rw [List.mem_singleton.mp hp]
          have z : ∀ a o, (a, o) ∈ (I, oI) :: (C, oC) :: (D, LCg.lst ys) :: (news ++ T) → e.1 ≠ a := by
            rintro a o hm rfl
            rw [(N _ hm).1] at ef
            cases ef
          exact ⟨z _ _ (.head _), z _ _ (.tail _ (.head _)), z _ _ (.tail _ (.tail _ (.head _)))⟩
      · refine ih (i + 1) (ys ++ [y]) (T ++ [e]) (by omega) (hT.append ?_) ?_
        · intro p hp
          rw [List.mem_singleton.mp hp]
          exact ec
        · rw [List.range_succ, List.map_append]
          exact (hy.mono fun _ h => List.mem_append_left _ h).append ⟨re.mono fun _ h => List.mem_append_right _ h, trivial⟩
  have := key n 0 [] [] (by omega) Tups.nil trivial
  rw [List.append_nil] at this
  exact this
end
theorem range_getD {α β : Type} (f : α → β) (d : α) : ∀ p : List α, (List.range p.length).map (fun i => f (p.getD i d)) = p.map f := by
  intro p
  apply List.ext_getElem?
  intro i
  simp only [List.getElem?_map, List.getElem?_range]
  by_cases h : i < p.length
  · simp [h]
  · simp [h, List.getElem?_eq_none (Nat.not_lt.mp h)]
theorem PolyNew.ofLed {h₀ h : Heap} {L l : Addr} {news T : Ledger} {vs : List Value} {n : Nat} {p : List Q2} (N : News h₀ L h news) (k : h₀.StaysIn h) (hm : (l, lstO vs n) ∈ news) (hr : RatsL h₀ T vs p) (sub : ∀ e ∈ T, e ∈ news) : PolyNew h₀ h (.ref l) p :=
  PolyNew.ofNews N hm (hr.at k N sub)
theorem lookup_isSome_of_names {x : Str} : ∀ {a b : List (Str × Addr)}, a.map (·.1) = b.map (·.1) → (a.lookup x).isSome = (b.lookup x).isSome
  | [], [], _ => rfl
  | (n, c) :: r, (n', c') :: r', e => by
    simp only [List.map_cons, List.cons.injEq] at e
    obtain ⟨rfl, e⟩ := e
    rw [List.lookup_cons, List.lookup_cons]
    cases x == n with
    | true => rfl
    | false => exact lookup_isSome_of_names e
  | [], _ :: _, e => by cases e
  | _ :: _, [], e => by cases e
theorem Sp.defC {w : World} {f : Addr} {n : Nat} {vs : List Value} {P : Heap → Prop} {R : Heap → Value → Heap → Prop}
    {name qual : Str} {params : Arguments} {body : List Stmt} {scope : Scope} {dV kV doc pm cdv ct oc : Value} {an od : Option Addr} {osl : Array (Option Value)} (binds : List (Str × Value))
    (ho : (hd.heap_1 w.params).lookup f = some ⟨oc, od, .func (fnOf name qual params body scope dV kV doc pm an cdv ct), osl⟩) (hcd : codeIn (hd.heap_1 w.params) cdv qual = true)
    (hbind : bindArgs (fnOf name qual params body scope dV kV doc pm an cdv ct) ⟨vs, []⟩ = pure binds)
    (hkind : (binds.all fun x => decide (scope.names.lookup x.1 = some .local) || (decide (scope.names.lookup x.1 = some .cell) && ((cellsFrom 0 scope.names []).lookup x.1).isSome)) = true)
    (hnd : ((cellsFrom 0 scope.names []).map (·.1)).Nodup)
    (hco : scope.isCoroutine = false) (hgen : scope.isGenerator = false) (hk : scope.kind = .function)
    (h : ∀ (dp un : Nat) (fr : Option (List Env)) (gd : Option (List Code)) (s : Shared) (mean : ExcName → Option Value) (mg mb : Str → Option Value) (L : Addr) (h₁ : Heap) (tk : Nat) (cells : Ledger), Rm { handled := none, depth := dp, frames := fr, guards := gd, units := un } (n + 1) →
      (hd.heap_1 w.params).In s.heap → Top hv (looseW hv []) mean mg mb s.heap → P s.heap → Fr s.heap L h₁ (bindL (envOfC qual scope L f cdv).kindOf binds fun _ => none) → News s.heap L h₁ cells →
      CellsAre (bindC (envOfC qual scope L f cdv).kindOf binds fun _ => none) (cellsFrom (L + 1) scope.names []) cells →
      wpAny (model PySem.Challenge.rw_sa0081_01.row.prog w) (Around.deeper { handled := none, depth := dp, frames := fr, guards := gd, units := un } (envOfC qual scope L f cdv)) (execs body (envOfC qual scope L f cdv))
        (fun fl s' => Ret s (R s.heap) (match fl with | .ret v => v | _ => .none) s') NoE { s with heap := h₁, toks := tk }) : Sp w f (n + 1) vs P R := by
  intro A s mean mg mb rm X T hP
  obtain ⟨hdl, dp, fr, gd, un⟩ := A
  obtain rfl : hdl = none := rm.hd
  have hlk : ∀ (ns : List (Str × NameKind)) (a b : Addr) (c₁ c₂ : List (Str × Addr)), c₁.map (·.1) = c₂.map (·.1) → ∀ x, ((cellsFrom a ns c₁).lookup x).isSome = ((cellsFrom b ns c₂).lookup x).isSome := fun ns a b c₁ c₂ e x => lookup_isSome_of_names (cellsFrom_names ns a b c₁ c₂ e)
  refine wpAny_call (codeAny_call_function (fd := fnOf name qual params body scope dV kV doc pm an cdv ct) (body := body) rm.room (X _ _ ho) rfl hco hgen rfl (codeRec_of X hcd) (BindsTo.of_eq (s := s) hbind _ _ _ _ ?_))
  refine wpAny_newFunctionEnv_cells hk (fun x hx => ?_) fun env' he s' x => ?_
  · have := List.all_eq_true.mp hkind x hx
    simp only [Bool.or_eq_true, Bool.and_eq_true, decide_eq_true_eq] at this
    rcases this with h | ⟨h, h'⟩
    · exact .inl h
    · exact .inr ⟨h, by rw [hlk scope.names _ 0 [] [] rfl]; exact h'⟩
  subst he
  refine ⟨T.nolimit.keeps x.toInCall.keep, codeAny_func ?_⟩
  obtain ⟨h₁, tk, rfl, _⟩ := x.done
  have hk₁ := x.toInCall.keep
  obtain ⟨cells, NC, Y⟩ := Cl.news (h₀ := s.heap) (Nat.le_refl _) fun n c hm => ⟨x.cell n c (lookup_of_mem_nodup (cellsFrom_names scope.names 0 (s.heap.objs.size + 1) [] [] rfl ▸ hnd) hm), x.above n c hm⟩
  refine wpAny_mono (h dp un fr gd s mean mg mb s.heap.objs.size h₁ tk cells rm X T hP ⟨x.toInCall.ns, fun b o e => hk₁ b o e, Nat.le_refl _⟩ NC Y) (fun fl s' hl => hl) fun _ _ y => y.elim
example (w : World) : (hd.heap_1 w.params).In (default : Heap) → PySem.Challenge.rw_sa0081_01.Holds → True := by (k_fill; exact fun _ _ => trivial)
def trimN (p : List Q2) : Nat → Nat
  | 0 => 0
  | k + 1 => if (p[k]?).map (·.1) = some 0 then trimN p k else k + 1
def qtrimP (p : List Q2) : List Q2 := p.take (trimN p p.length)
theorem trimN_le (p : List Q2) : ∀ k, trimN p k ≤ k
  | 0 => Nat.le_refl _
  | k + 1 => by
    unfold trimN
    split
    · exact Nat.le_succ_of_le (trimN_le p k)
    · exact Nat.le_refl _
def optMap {α β : Type} (g : α → Option β) : List α → Option (List β)
  | [] => some []
  | x :: r => match g x, optMap g r with
    | some y, some ys => some (y :: ys)
    | _, _ => none
theorem optMap_cons {α β : Type} {g : α → Option β} {x : α} {r : List α} {zs : List β} (h : optMap g (x :: r) = some zs) : ∃ y ys, g x = some y ∧ optMap g r = some ys ∧ zs = y :: ys := by
  unfold optMap at h
  split at h
  · rename_i y ys h1 h2
    exact ⟨y, ys, h1, h2, (Option.some.inj h).symm⟩
  · cases h
theorem optMap_spec {α β : Type} {g : α → Option β} : ∀ {l : List α} {zs : List β}, optMap g l = some zs → zs.length = l.length ∧ ∀ (i : Nat) (x : α), l[i]? = some x → ∃ y, zs[i]? = some y ∧ g x = some y
  | [], zs, h => by
    cases h
    exact ⟨rfl, fun i x e => by simp at e⟩
  | x :: r, zs, h => by
    obtain ⟨y, ys, h1, h2, rfl⟩ := optMap_cons h
    obtain ⟨e, k⟩ := optMap_spec h2
    refine ⟨by simp [e], fun i x' hx => ?_⟩
    cases i with
    | zero =>
      simp at hx
      subst hx
      exact ⟨y, rfl, h1⟩
    | succ i =>
      simp at hx
      simpa using k i x' hx
theorem RatsAt.getD' {h : Heap} {vs : List Value} {p : List Q2} {i : Nat} {v : Value} {d : Q2} (x : RatsAt h vs p) (e : vs[i]? = some v) : RatAt h v (p.getD i d) := by
  obtain ⟨q, hq, r⟩ := x.get e
  simpa [List.getD, hq] using r
theorem rat_of {K : Frag} {h : Heap} {a : Addr} {dd : Option Addr} {n : Nat} {sl : Array (Option Value)} {ta tb : Tok} {x y : Int} (X : K.In h) (ho : K.lookup a = some ⟨.type "tuple", dd, .seq #[.int x ta, .int y tb] n, sl⟩) : RatAt h (.ref a) (x, y) :=
  ⟨a, ta, tb, rfl, _, X _ _ ho, rfl, n, rfl⟩
theorem R0_at {w : World} {h : Heap} (X : (hd.heap_1 w.params).In h) : RatAt h (.ref 42) (0, 1) := by
  k_dflt (refine' rat_of X ?ho)
  case ho => k_is
theorem R1_at {w : World} {h : Heap} (X : (hd.heap_1 w.params).In h) : RatAt h (.ref 43) (1, 1) := by
  k_dflt (refine' rat_of X ?ho)
  case ho => k_is
theorem R0D {w : World} {h : Heap} (X : (hd.heap_1 w.params).In h) {p : List Q2} {i : Nat} (hi : p.length ≤ i) : RatAt h (.ref 42) (p.getD i (0, 1)) := by
  have : p.getD i (0, 1) = (0, 1) := by simp [List.getD, List.getElem?_eq_none hi]
  rw [this]
  exact R0_at X
def qaddO (a b : List Q2) : Option (List Q2) := (optMap (fun i => raddO (a.getD i (0, 1)) (b.getD i (0, 1))) (List.range (max a.length b.length))).map qtrimP
theorem rangeN_small (n : Nat) (h : n ≤ 16384) : Builtin.Range.small 0 (n : Int) 1 = true := by
  unfold Builtin.Range.small
  simp [Builtin.Range.rangeFitsLong, Builtin.Range.rangeSize]
  omega
theorem rangeN_size (n : Nat) : Builtin.Range.rangeSize 0 (n : Int) 1 = (n : Int) := by
  rw [rangeSize_pos (by omega) (by omega)]
  omega
theorem PolyAt.ofLed {h₀ h : Heap} {L l : Addr} {news T : Ledger} {vs : List Value} {n : Nat} {p : List Q2} (N : News h₀ L h news) (k : h₀.StaysIn h) (hm : (l, lstO vs n) ∈ news) (hr : RatsL h₀ T vs p) (sub : ∀ e ∈ T, e ∈ news) : PolyAt h (.ref l) p :=
  ⟨l, n, vs, rfl, (N _ hm).1, hr.at k N sub⟩
theorem range_getD_id {α : Type} (d : α) (p : List α) : (List.range p.length).map (fun i => p.getD i d) = p := by
  have := range_getD (fun x : α => x) d p
  simpa using this
theorem idx0 (i : Nat) : ((0 : Int) + (i : Int)).toNat = i := by omega
def itc (o : Obj) : Bool := o.cls == .type "list_iterator" || o.cls == .type "enumerate" || o.cls == .type "list_reverseiterator" || o.cls == .type "range_iterator"
section
variable {prog : Program} {w : World} {A : Around} {s : Shared} {env : Env} {h₀ : Heap} {target : PySem.Expr} {body : List Stmt} {Q : Flow → Shared → Prop} {m : Str → Option Value}
def FEnd {σ : Type} (g : Heap) (L : Addr) (own : Ledger) (s : Shared) (ps : σ → List (Str × Value)) (led : σ → Ledger) (Inv : Nat → σ → Prop) (Q : Flow → Shared → Prop) (i : Nat) (f : Flow) (s₃ : Shared) : Prop :=
  match f with
  | .next | .cont => ∃ c h' tk m', s₃ = { s with heap := h', toks := tk } ∧ Fr g L h' m' ∧ (∀ p ∈ ps c, m' p.1 = some p.2) ∧ News g L h' (led c ++ own) ∧ Inv i c
  | .brk => Q .next s₃
  | .ret v => Q (.ret v) s₃
theorem turns_K {σ : Type} {n : Nat} {I : Addr} {fp wr : List Addr} {P Md : Nat → Value → Heap → Prop} {St : Nat → Heap → Prop} (W : KTurns prog w A target I fp wr n P Md St) (hLf : env.locals ∉ fp) (hwr : ∀ b ∈ wr, h₀.get? b = none)
    (ps : σ → List (Str × Value)) (led : σ → Ledger) (Inv : Nat → σ → Prop) (c₀ : σ) (hok : ∀ i c, Inv i c → ∀ p ∈ led c, itc p.2 = false ∨ ∃ q ∈ led c₀, q.1 = p.1) (hn0 : ∀ p ∈ led c₀, p.1 ∉ wr)
    (hcls : ∀ i h, St i h → ∀ b ∈ wr, ∃ o, h.get? b = some o ∧ itc o = true) (hfp : ∀ b ∈ fp, b ∈ wr ∨ (∃ o, h₀.get? b = some o) ∨ ∃ o, ∀ i c, Inv i c → (b, o) ∈ led c)
    (hst : St 0 s.heap) (F : Fr h₀ env.locals s.heap m) (hk : ∀ p ∈ ps c₀, m p.1 = some p.2) (N : News h₀ env.locals s.heap (led c₀)) (h0 : Inv 0 c₀)
    (turn : ∀ i v c u own h tk, i < n → P i v h → Inv i c → (∀ q ∈ own, itc q.2 = true) → Fr h₀ env.locals h (over (ps c) u) → News h₀ env.locals h (led c ++ own) →
      wpAny (model prog w) A (assign target env v) (fun _ s₃ => wpAny (model prog w) A (execs body env) (FEnd h₀ env.locals own s ps led Inv Q (i + 1)) NoE s₃) NoE { s with heap := h, toks := tk })
    (fin : ∀ c u h tk, Inv n c → Fr h₀ env.locals h (over (ps c) u) → News h₀ env.locals h (led c) → Q .next { s with heap := h, toks := tk }) :
    TurnsAt prog w A h₀ env target body Q NoE (.ref I) s := by
  let J : Nat → (Str → Option Value) → Ledger → Prop := fun i m news => ∃ c, (∀ p ∈ ps c, m p.1 = some p.2) ∧ news = led c ∧ Inv i c
  have off : ∀ i h c, St i h → Inv i c → News h₀ env.locals h (led c) → ∀ p ∈ led c, p.1 ∉ wr := by
    intro i h c st hI Nl p hp hw
    obtain ⟨o, e, ho⟩ := hcls i h st p.1 hw
    have e2 := (Nl p hp).1
    rw [e] at e2
    cases e2
    rcases hok i c hI p hp with hq | ⟨q, hq, hqe⟩
    · rw [hq] at ho
      cases ho
    · exact hn0 q hq (hqe ▸ hw)
  refine ⟨I, fp, wr, n, P, Md, St, m, led c₀, J, rfl, W, hLf, hwr, off 0 _ _ hst h0 N, hst, F, N, ⟨c₀, hk, rfl, h0⟩, ?_, ?_⟩
  · rintro i v m₁ news₁ h₁ tk₁ own hin hP ⟨c, hkc, rfl, hI⟩ hnw hown hget hall hst₁ F₁ N₁
    have F₂ : Fr h₀ env.locals h₁ (over (ps c) m₁) := by rw [over_eq hkc]; exact F₁
    have N₂ : News h₀ env.locals h₁ (led c ++ own.filter fun q => itc q.2) := fun p hp => by
      rcases List.mem_append.mp hp with hp | hp
      · exact N₁ p (List.mem_append_right _ hp)
      · exact N₁ p (List.mem_append_left _ (List.mem_filter.mp hp).1)
    have fin' : ∀ s₃, (∃ c h' tk m', s₃ = { s with heap := h', toks := tk } ∧ Fr h₀ env.locals h' m' ∧ (∀ p ∈ ps c, m' p.1 = some p.2) ∧ News h₀ env.locals h' (led c ++ own.filter fun q => itc q.2) ∧ Inv (i + 1) c) →
        LoopStepU h₀ env.locals wr own (J (i + 1)) { s with heap := h₁, toks := tk₁ } .next s₃ := by
      rintro s₃ ⟨c', h', tk', m', rfl, F', hk', N', hI'⟩
      refine ⟨rfl, h', tk', m', led c', rfl, F', fun q hq => ?_, fun p hp hw => ?_, ⟨c', hk', rfl, hI'⟩⟩
      · rcases List.mem_append.mp hq with hq | hq
        · by_cases hq2 : itc q.2 = true
          · exact N' q (List.mem_append_right _ (List.mem_filter.mpr ⟨hq, hq2⟩))
          · rcases hfp q.1 (hown q hq) with hw | ⟨o, ho⟩ | ⟨o, ho⟩
            · obtain ⟨o, e, ho⟩ := hcls _ h₁ hst₁ q.1 hw
              rw [hget q hq] at e
              cases e
              exact absurd ho hq2
            · have := (N₁ q (List.mem_append_left _ hq)).2.2
              rw [ho] at this
              cases this
            · have e1 := (N₁ _ (List.mem_append_right _ (ho i c hI))).1
              have e2 := hget q hq
              rw [show (q.1, o).1 = q.1 from rfl, e2] at e1
              have e3 : q = (q.1, o) := Prod.ext rfl (Option.some.inj e1)
              rw [e3]
              exact N' _ (List.mem_append_left _ (ho _ c' hI'))
        · exact N' q (List.mem_append_left _ hq)
      · obtain ⟨o, e, ho⟩ := hcls _ h₁ hst₁ p.1 hw
        have hm := hall p.1 (W.sub _ hw) (hwr _ hw) o e
        have e1 := (N' (p.1, o) (List.mem_append_right _ (List.mem_filter.mpr ⟨hm, ho⟩))).1
        have e2 := (N' p (List.mem_append_left _ hp)).1
        rw [show (p.1, o).1 = p.1 from rfl, e2] at e1
        have e3 := Option.some.inj e1
        rw [← show p.2 = o from e3] at ho
        rcases hok _ c' hI' p hp with hq | ⟨q, hq, hqe⟩
        · rw [hq] at ho
          cases ho
        · exact hn0 q hq (hqe ▸ hw)
    refine wpAny_mono (turn i v c m₁ _ h₁ tk₁ hin hP hI (fun q hq => by simpa using (List.mem_filter.mp hq).2) F₂ N₂) (fun _ s₂ h₂ => wpAny_mono h₂ (fun f s₃ p => ?_) fun _ _ e => e) fun _ _ e => e
    cases f with
    | ret v => exact .ret p
    | brk => exact .brk p
    | next => exact .next (fin' _ p)
    | cont => exact .cont (fin' _ p)
  · rintro h' tk m' news' F' N' _ ⟨c, hkc, rfl, hI⟩
    exact fin c m' h' tk hI (by rw [over_eq hkc]; exact F') N'
theorem ne_of_none {h : Heap} {a b : Addr} (x : ∃ o, h.get? a = some o) (y : h.get? b = none) : a ≠ b := by
  rintro rfl
  obtain ⟨o, e⟩ := x
  rw [e] at y
  cases y
theorem fresh_ge {h₀ h : Heap} {L b : Addr} {m : Str → Option Value} (F : Fr h₀ L h m) (hb : h.objs.size ≤ b) : h₀.get? b = none := ktu_new F hb
theorem letGo_name {E : Value → Shared → Prop} {x : Str} {px : Pos} {it v : Value} {Q' : Unit → Shared → Prop} {s' : Shared} (h : Q' () s') : wpAny (model prog w) A (letOwnedTupleGo (.Name x px) it v) Q' E s' := by
  unfold letOwnedTupleGo
  exact wpAny_pure h
/-- for x in l -/
theorem iter_list {σ : Type} {l : Addr} {vs : List Value} (hh : A.handled = none) (ps : σ → List (Str × Value)) (led : σ → Ledger) (Inv : Nat → σ → Prop) (c₀ : σ) (hok : ∀ i c, Inv i c → ∀ p ∈ led c, itc p.2 = false ∨ ∃ q ∈ led c₀, q.1 = p.1)
    (hl : s.heap.IsList l vs.toArray) (hsrc : (∃ o, h₀.get? l = some o) ∨ ∃ o, ∀ i c, Inv i c → (l, o) ∈ led c) (hlL : l ≠ env.locals)
    (F : Fr h₀ env.locals s.heap m) (hk : ∀ p ∈ ps c₀, m p.1 = some p.2) (N : News h₀ env.locals s.heap (led c₀)) (h0 : Inv 0 c₀)
    (turn : ∀ i v c u own h tk, vs[i]? = some v → Inv i c → (∀ q ∈ own, itc q.2 = true) → Fr h₀ env.locals h (over (ps c) u) → News h₀ env.locals h (led c ++ own) →
      wpAny (model prog w) A (assign target env v) (fun _ s₃ => wpAny (model prog w) A (execs body env) (FEnd h₀ env.locals own s ps led Inv Q (i + 1)) NoE s₃) NoE { s with heap := h, toks := tk })
    (fin : ∀ c u h tk, Inv vs.length c → Fr h₀ env.locals h (over (ps c) u) → News h₀ env.locals h (led c) → Q .next { s with heap := h, toks := tk }) :
    wpAny (model prog w) A (pyIter (.ref l)) (fun it s₂ => TurnsAt prog w A h₀ env target body Q NoE it s₂) NoE s := by
  have hlt : l < s.heap.objs.size := by obtain ⟨_, e, _⟩ := hl; exact Heap.lt_size e
  have hne : l ≠ s.heap.objs.size := Nat.ne_of_lt hlt
  refine wpAny_pyIter_list hl ?_
  have W := KTurns.ofWalks (target := target) (Walks.list (prog := prog) (w := w) hh s.heap.objs.size l hne vs.toArray) fun i v s Q E st q => letGo_listiter st.1 q
  refine turns_K (s := { s with heap := s.heap.push { cls := .type "list_iterator", data := .fields #[.ref l, .int 0 0] } }) W ?_ ?_ ps led Inv c₀ hok ?_ ?_ ?_ ?_ (F.push _) hk (fun p hp => ⟨Heap.get?_push_of_some _ (N p hp).1, (N p hp).2⟩) h0 (fun i v c u own h tk hi hP hI ho F₁ N₁ => ?_) (fun c u h tk hI F₁ N₁ => ?_)
  · intro hI
    rcases List.mem_cons.mp hI with e | hI
    · exact absurd F.ns.lt (e ▸ Nat.lt_irrefl _)
    · exact hlL (List.mem_singleton.mp hI).symm
  · intro b hb
    rw [List.mem_singleton.mp hb]
    exact next_is_new F
  · intro p hp hw
    exact Nat.ne_of_lt (Heap.lt_size (N p hp).1) (List.mem_singleton.mp hw)
  · rintro i h ⟨⟨o, e, hc, _⟩, _⟩ b hb
    rw [List.mem_singleton.mp hb]
    exact ⟨o, e, by simp [itc, hc]⟩
  · intro b hb
    rcases List.mem_cons.mp hb with rfl | hb
    · exact .inl (by simp)
    · rw [List.mem_singleton.mp hb]
      exact .inr hsrc
  · exact ⟨⟨_, Heap.get?_push_size _ rfl, rfl, rfl⟩, hl.at fun o e => Heap.get?_push_of_some _ e⟩
  · exact turn i v c u own h tk (by have hP' : vs.toArray[i]? = some v := hP; simpa using hP') hI ho F₁ N₁
  · exact fin c u h tk (by simpa using hI) F₁ N₁
/-- for i, x in enumerate(l) -/
theorem iter_enum {σ : Type} {l : Addr} {vs : List Value} {elts : List PySem.Expr} {kk : Nat} {pos : Pos} (hh : A.handled = none) (ps : σ → List (Str × Value)) (led : σ → Ledger) (Inv : Nat → σ → Prop) (c₀ : σ) (hok : ∀ i c, Inv i c → ∀ p ∈ led c, itc p.2 = false ∨ ∃ q ∈ led c₀, q.1 = p.1)
    (hl : s.heap.IsList l vs.toArray) (hsrc : (∃ o, h₀.get? l = some o) ∨ ∃ o, ∀ i c, Inv i c → (l, o) ∈ led c) (hlL : l ≠ env.locals)
    (F : Fr h₀ env.locals s.heap m) (hk : ∀ p ∈ ps c₀, m p.1 = some p.2) (N : News h₀ env.locals s.heap (led c₀)) (h0 : Inv 0 c₀)
    (turn : ∀ (i : Nat) x T t c u own h tk, vs[i]? = some x → IsTup h T #[.int i t, x] → Inv i c → (∀ q ∈ own, itc q.2 = true) → Fr h₀ env.locals h (over (ps c) u) → News h₀ env.locals h (led c ++ own) →
      wpAny (model prog w) A (assign (.Tuple elts kk pos) env (.ref T)) (fun _ s₃ => wpAny (model prog w) A (execs body env) (FEnd h₀ env.locals own s ps led Inv Q (i + 1)) NoE s₃) NoE { s with heap := h, toks := tk })
    (fin : ∀ c u h tk, Inv vs.length c → Fr h₀ env.locals h (over (ps c) u) → News h₀ env.locals h (led c) → Q .next { s with heap := h, toks := tk }) :
    wpAny (model prog w) A (call (.type "enumerate") [.ref l]) (fun xv s₁ => wpAny (model prog w) A (pyIter xv) (fun it s₂ => TurnsAt prog w A h₀ env (.Tuple elts kk pos) body Q NoE it s₂) NoE s₁) NoE s := by
  have hlt : l < s.heap.objs.size := by obtain ⟨_, e, _⟩ := hl; exact Heap.lt_size e
  have hLs : env.locals < s.heap.objs.size := F.ns.lt
  refine call_enumerate_list hl fun h' hE hI hsz hkk => ?_
  refine wpAny_pyIter_enum hE ?_
  have W := KTurns.ofWalksU (elts := elts) (k := kk) (pos := pos) (WalksT.enumerate (prog := prog) (w := w) hh (s.heap.objs.size + 1) s.heap.objs.size l (Nat.succ_ne_self _) (ktu_ne 1 hlt) (Nat.ne_of_lt hlt) vs.toArray).toU
  refine turns_K (s := { s with heap := h' }) W ?_ ?_ ps led Inv c₀ hok ?_ ?_ ?_ ?_ (F.keeps hkk) hk (N.grown hkk) h0 (fun i v c u own h tk hi hP hI ho F₁ N₁ => ?_) (fun c u h tk hI F₁ N₁ => ?_)
  · intro hI'
    have hb' : env.locals = s.heap.objs.size + 1 ∨ env.locals = s.heap.objs.size ∨ env.locals = l := by simpa using hI'
    rcases hb' with e | e | e
    · exact ktu_ne 1 hLs e
    · exact Nat.ne_of_lt hLs e
    · exact hlL e.symm
  · intro b hb
    have hb' : b = s.heap.objs.size + 1 ∨ b = s.heap.objs.size := by simpa using hb
    rcases hb' with rfl | rfl
    · exact ktu_new F (Nat.le_add_right _ _)
    · exact ktu_new F (Nat.le_refl _)
  · intro p hp hw
    have hb' : p.1 = s.heap.objs.size + 1 ∨ p.1 = s.heap.objs.size := by simpa using hw
    have hlp := Heap.lt_size (N p hp).1
    rcases hb' with e | e
    · exact ktu_ne 1 hlp e
    · exact Nat.ne_of_lt hlp e
  · rintro i h ⟨⟨old, he⟩, ⟨oi, hoi, hic, _⟩, _⟩ b hb
    have hb' : b = s.heap.objs.size + 1 ∨ b = s.heap.objs.size := by simpa using hb
    rcases hb' with rfl | rfl
    · exact ⟨_, he, rfl⟩
    · exact ⟨oi, hoi, by simp [itc, hic]⟩
  · intro b hb
    have hb' : b = s.heap.objs.size + 1 ∨ b = s.heap.objs.size ∨ b = l := by simpa using hb
    rcases hb' with rfl | rfl | rfl
    · exact .inl (by simp)
    · exact .inl (by simp)
    · exact .inr hsrc
  · exact ⟨⟨.none, hE⟩, hI, hl.at fun o e => hkk l o e⟩
  · obtain ⟨T, vals, rfl, ⟨t, x, hx, rfl⟩, hT⟩ := hP
    exact turn i x T t c u own h tk (by simpa using hx) hT hI ho F₁ N₁
  · exact fin c u h tk (by simpa using hI) F₁ N₁
/-- for x in reversed(l) -/
theorem iter_rev {σ : Type} {l : Addr} {vs : List Value} {x : Str} {px : Pos} (hh : A.handled = none) (ps : σ → List (Str × Value)) (led : σ → Ledger) (Inv : Nat → σ → Prop) (c₀ : σ) (hok : ∀ i c, Inv i c → ∀ p ∈ led c, itc p.2 = false ∨ ∃ q ∈ led c₀, q.1 = p.1)
    (hl : s.heap.IsList l vs.toArray) (hsrc : (∃ o, h₀.get? l = some o) ∨ ∃ o, ∀ i c, Inv i c → (l, o) ∈ led c) (hlL : l ≠ env.locals)
    (F : Fr h₀ env.locals s.heap m) (hk : ∀ p ∈ ps c₀, m p.1 = some p.2) (N : News h₀ env.locals s.heap (led c₀)) (h0 : Inv 0 c₀)
    (turn : ∀ i v c u own h tk, i < vs.length → vs[vs.length - 1 - i]? = some v → Inv i c → (∀ q ∈ own, itc q.2 = true) → Fr h₀ env.locals h (over (ps c) u) → News h₀ env.locals h (led c ++ own) →
      wpAny (model prog w) A (assign (.Name x px) env v) (fun _ s₃ => wpAny (model prog w) A (execs body env) (FEnd h₀ env.locals own s ps led Inv Q (i + 1)) NoE s₃) NoE { s with heap := h, toks := tk })
    (fin : ∀ c u h tk, Inv vs.length c → Fr h₀ env.locals h (over (ps c) u) → News h₀ env.locals h (led c) → Q .next { s with heap := h, toks := tk }) :
    wpAny (model prog w) A (call (.type "reversed") [.ref l]) (fun xv s₁ => wpAny (model prog w) A (pyIter xv) (fun it s₂ => TurnsAt prog w A h₀ env (.Name x px) body Q NoE it s₂) NoE s₁) NoE s := by
  have hlt : l < s.heap.objs.size := by obtain ⟨_, e, _⟩ := hl; exact Heap.lt_size e
  have hne : l ≠ s.heap.objs.size := Nat.ne_of_lt hlt
  refine call_reversed_list hl ?_
  have hrev : (s.heap.push (revObj l ((vs.toArray.size : Int) - 1))).IsRevIter s.heap.objs.size l ((vs.toArray.size : Int) - 1) := ⟨_, Heap.get?_push_size _ rfl, rfl, rfl⟩
  refine wpAny_pyIter_revIter (s := { s with heap := s.heap.push (revObj l ((vs.toArray.size : Int) - 1)) }) hrev ?_
  have W := KTurns.ofWalks (target := .Name x px) (Walks.listRev (prog := prog) (w := w) hh s.heap.objs.size l hne vs.toArray) fun i v s Q E st q => letGo_name q
  refine turns_K (s := { s with heap := s.heap.push (revObj l ((vs.toArray.size : Int) - 1)) }) W ?_ ?_ ps led Inv c₀ hok ?_ ?_ ?_ ?_ (F.push _) hk (fun p hp => ⟨Heap.get?_push_of_some _ (N p hp).1, (N p hp).2⟩) h0 (fun i v c u own h tk hi hP hI ho F₁ N₁ => ?_) (fun c u h tk hI F₁ N₁ => ?_)
  · intro hI
    rcases List.mem_cons.mp hI with e | hI
    · exact absurd F.ns.lt (e ▸ Nat.lt_irrefl _)
    · exact hlL (List.mem_singleton.mp hI).symm
  · intro b hb
    rw [List.mem_singleton.mp hb]
    exact next_is_new F
  · intro p hp hw
    exact Nat.ne_of_lt (Heap.lt_size (N p hp).1) (List.mem_singleton.mp hw)
  · rintro i h ⟨_, ⟨o, e, hc, _⟩, _⟩ b hb
    rw [List.mem_singleton.mp hb]
    exact ⟨o, e, by simp [itc, hc]⟩
  · intro b hb
    rcases List.mem_cons.mp hb with rfl | hb
    · exact .inl (by simp)
    · rw [List.mem_singleton.mp hb]
      exact .inr hsrc
  · refine ⟨Nat.zero_le _, ?_, hl.at fun o e => Heap.get?_push_of_some _ e⟩
    have e : (vs.toArray.size : Int) - 1 - ((0 : Nat) : Int) = (vs.toArray.size : Int) - 1 := by omega
    rw [e]
    exact hrev
  · have hP' : vs.toArray[vs.toArray.size - 1 - i]? = some v := hP
    exact turn i v c u own h tk (by simpa using hi) (by simpa using hP') hI ho F₁ N₁
  · exact fin c u h tk (by simpa using hI) F₁ N₁
end
theorem lst_ne_L {g h : Heap} {L l : Addr} {m : Str → Option Value} {vs : List Value} {n : Nat} (F : Fr g L h m) (e : h.get? l = some (lstO vs n)) : l ≠ L := ns_ne_seq F e rfl
def RatObj (o : Obj) (q : Q2) : Prop := o.cls = .type "tuple" ∧ ∃ tn td n, o.data = .seq #[.int q.1 tn, .int q.2 td] n
section
variable {g h h' : Heap} {L : Addr} {m : Str → Option Value} {T U news : Ledger} {v : Value} {vs ws : List Value} {q : Q2} {p : List Q2} {t : Addr} {o : Obj}
theorem RatObj.at (x : RatObj o q) (N : News g L h news) (hm : (t, o) ∈ news) : RatAt h (.ref t) q := by
  obtain ⟨hc, a, b, n, hd⟩ := x
  exact ⟨t, a, b, rfl, o, (N _ hm).1, hc, n, hd⟩
theorem RatObj.led (x : RatObj o q) (hm : (t, o) ∈ T) : RatL g T (.ref t) q := by
  obtain ⟨hc, a, b, n, hd⟩ := x
  exact .inr ⟨t, a, b, o, rfl, hm, hc, n, hd⟩
theorem RatObj.new {b : Heap} (x : RatObj o q) (N : News g L h news) (hm : (t, o) ∈ news) (hb : b.get? t = none) : RatNew b h (.ref t) q := by
  obtain ⟨hc, a, c, n, hd⟩ := x
  exact ⟨t, a, c, rfl, hb, o, (N _ hm).1, hc, n, hd⟩
theorem RatObj.itc (x : RatObj o q) : itc o = false := by simp [Mine.itc, x.1]
theorem Tups.itc (x : Tups T) : ∀ e ∈ T, itc e.2 = false := fun e he => by simp [Mine.itc, x e he]
theorem Tups.ne {D : Addr} {n : Nat} (x : Tups T) (N : News g L h news) (hD : (D, lstO vs n) ∈ news) (sub : ∀ e ∈ T, e ∈ news) : ∀ e ∈ T, e.1 ≠ D := by
  intro e he hd
  have h1 := (N _ (sub e he)).1
  have h2 := (N _ hD).1
  rw [hd] at h1
  have h3 := Option.some.inj (h1.symm.trans h2)
  have h4 := x e he
  rw [h3] at h4
  revert h4
  show ¬ (Value.type "list" = Value.type "tuple")
  simp
theorem Own.ne {D : Addr} {n : Nat} {own : Ledger} (x : ∀ e ∈ own, itc e.2 = true) (N : News g L h news) (hD : (D, lstO vs n) ∈ news) (sub : ∀ e ∈ own, e ∈ news) : ∀ e ∈ own, e.1 ≠ D := by
  intro e he hd
  have h1 := (N _ (sub e he)).1
  have h2 := (N _ hD).1
  rw [hd] at h1
  have h3 := Option.some.inj (h1.symm.trans h2)
  have h4 := x e he
  rw [h3] at h4
  revert h4
  show ¬ (itc (lstO vs n) = true)
  simp [itc]
theorem News.mono {news' : Ledger} (N : News g L h news) (sub : ∀ e ∈ news', e ∈ news) : News g L h news' := fun e he => N e (sub e he)
end
section
variable {w : World} {f : Addr} {n : Nat} {vals : List Value} {P : Heap → Prop} {A : Around} {s : Shared} {mean : ExcName → Option Value} {mg mb : Str → Option Value} {h₀ : Heap} {L : Addr} {m : Str → Option Value} {news : Ledger} {env : Env} {Q E : Value → Shared → Prop}
theorem Sp.useR {q : Q2} (S : Sp w f n vals P (fun b v h => RatNew b h v q)) (r : Rm A (n + 1)) (X : (hd.heap_1 w.params).In h₀) (T : Top hv (looseW hv []) mean mg mb h₀) (F : Fr h₀ L s.heap m) (N : News h₀ L s.heap news) (hP : P s.heap)
    (k : ∀ t o h' tk', RatObj o q → s.heap.get? t = none → Fr h₀ L h' m → News h₀ L h' ((t, o) :: news) → Q (.ref t) { s with heap := h', toks := tk' }) :
    wpAny (model PySem.Challenge.rw_sa0081_01.row.prog w) (A.deeper env) (call (.ref f) vals) Q E s := by
  refine S.use2 r X T F N hP fun v h' tk' st st0 F' N' hR => ?_
  obtain ⟨t, a, b, rfl, hb, o, e, hc, n, hd⟩ := hR
  refine k t o h' tk' ⟨hc, a, b, n, hd⟩ hb F' fun p hp => ?_
  rcases List.mem_cons.mp hp with rfl | hp
  · exact ⟨e, ns_ne_seq F' e hd, none_down st0 hb⟩
  · exact N' p hp
theorem Sp.useP {p : List Q2} (S : Sp w f n vals P (fun b v h => PolyNew b h v p)) (r : Rm A (n + 1)) (X : (hd.heap_1 w.params).In h₀) (T : Top hv (looseW hv []) mean mg mb h₀) (F : Fr h₀ L s.heap m) (N : News h₀ L s.heap news) (hP : P s.heap)
    (k : ∀ l n vs U h' tk', Tups U → RatsL h₀ U vs p → s.heap.get? l = none → (∀ e ∈ news, e.1 ≠ l) → vs.length = p.length → Fr h₀ L h' m → News h₀ L h' ((l, lstO vs n) :: (news ++ U)) → Q (.ref l) { s with heap := h', toks := tk' }) :
    wpAny (model PySem.Challenge.rw_sa0081_01.row.prog w) (A.deeper env) (call (.ref f) vals) Q E s := by
  refine S.use2 r X T F N hP fun v h' tk' st st0 F' N' hR => ?_
  obtain ⟨l, n, vs, rfl, hb, e, hr⟩ := hR
  obtain ⟨U, hU, NU, rU⟩ := hr.absorb F' N'
  refine k l n vs U h' tk' hU rU hb (fun e he => ne_of_none ⟨_, (N e he).1⟩ hb) hr.length F' fun p hp => ?_
  rcases List.mem_cons.mp hp with rfl | hp
  · exact ⟨e, ns_ne_seq F' e rfl, none_down st0 hb⟩
  · refine NU p ?_
    rcases List.mem_append.mp hp with hp | hp
    · exact List.mem_append_right _ hp
    · exact List.mem_append_left _ hp
end
def foldO {α β : Type} (f : β → α → Option β) : β → List α → Option β
  | b, [] => some b
  | b, x :: r => match f b x with
    | some b' => foldO f b' r
    | none => none
theorem foldO_cons {α β : Type} {f : β → α → Option β} {b : β} {x : α} {r : List α} {z : β} (h : foldO f b (x :: r) = some z) : ∃ b', f b x = some b' ∧ foldO f b' r = some z := by
  unfold foldO at h
  split at h
  · exact ⟨_, by assumption, h⟩
  · cases h
def enumL {α : Type} : Nat → List α → List (Nat × α)
  | _, [] => []
  | k, x :: r => (k, x) :: enumL (k + 1) r
theorem enumL_length {α : Type} : ∀ (l : List α) (k : Nat), (enumL k l).length = l.length
  | [], _ => rfl
  | _ :: r, k => congrArg (· + 1) (enumL_length r (k + 1))
theorem enumL_get {α : Type} : ∀ (l : List α) (k i : Nat) {x : α}, l[i]? = some x → (enumL k l)[i]? = some (k + i, x)
  | [], _, _, _, h => by simp at h
  | y :: r, k, 0, x, h => by
    simp at h
    subst h
    rfl
  | y :: r, k, i + 1, x, h => by
    have := enumL_get r (k + 1) i (x := x) (by simpa using h)
    have e : k + 1 + i = k + (i + 1) := by omega
    rw [e] at this
    simpa [enumL] using this
theorem drop_get {α : Type} {l : List α} {i : Nat} {x : α} (h : l[i]? = some x) : l.drop i = x :: l.drop (i + 1) := by
  have hlt : i < l.length := by
    rcases Nat.lt_or_ge i l.length with h' | h'
    · exact h'
    · rw [List.getElem?_eq_none h'] at h
      cases h
  rw [List.drop_eq_getElem_cons hlt]
  congr 1
  exact Option.some.inj ((List.getElem?_eq_getElem hlt).symm.trans h)
theorem enumL_drop {α : Type} {l : List α} {i : Nat} {x : α} (h : l[i]? = some x) : (enumL 0 l).drop i = (i, x) :: (enumL 0 l).drop (i + 1) := by
  have := enumL_get l 0 i h
  rw [Nat.zero_add] at this
  exact drop_get this
theorem enumL_end {α : Type} {l : List α} : (enumL 0 l).drop l.length = [] := by
  apply List.drop_eq_nil_of_le
  rw [enumL_length]
  exact Nat.le_refl _
theorem RatsL.getD' {g : Heap} {T : Ledger} {vs : List Value} {p : List Q2} {i : Nat} {v : Value} {d : Q2} (x : RatsL g T vs p) (e : vs[i]? = some v) : RatL g T v (p.getD i d) := by
  obtain ⟨q, hq, r⟩ := x.get e
  simpa [List.getD, hq] using r
theorem idx2 (i j : Nat) : ((i : Int) + (j : Int)).toNat = i + j := by omega
section
variable {prog : Program} {w : World} {A : Around} {E : Value → Shared → Prop} {s : Shared} {h₀ : Heap} {L D : Addr} {m : Str → Option Value} {news : Ledger} {vs : List Value} {n : Nat} {k : Int} {t : Tok} {v : Value}
/-- D[k] = v; the ledger is said anew, rest -/
theorem set_R {Q : Unit → Shared → Prop} (rest : Ledger) (F : Fr h₀ L s.heap m) (N : News h₀ L s.heap news) (hm : (D, lstO vs n) ∈ news) (sub : ∀ e ∈ rest, e ∈ news) (hT : ∀ p ∈ rest, p.1 ≠ D) (h0 : 0 ≤ k) (h1 : k < vs.length) (hz : k < 2 ^ 62)
    (h : ∀ h', Fr h₀ L h' m → News h₀ L h' ((D, lstO (vs.set k.toNat v) n) :: rest) → Q () { s with heap := h' }) :
    wpAny (model prog w) A (setItem (.ref D) (.int k t) v) Q E s :=
  set_L F (fun p hp => by
    rcases List.mem_cons.mp hp with rfl | hp
    · exact N _ hm
    · exact N _ (sub p hp)) hT h0 h1 hz h
end
def mulStep (i j : Nat) (x y : Q2) (f : List Q2) : Option (List Q2) := match rmulO x y with
  | some z => match raddO (f.getD (i + j) (0, 1)) z with
    | some s => some (f.set (i + j) s)
    | none => none
  | none => none
theorem mulStep_some {i j : Nat} {x y : Q2} {f r : List Q2} (h : mulStep i j x y f = some r) : ∃ z s, rmulO x y = some z ∧ raddO (f.getD (i + j) (0, 1)) z = some s ∧ r = f.set (i + j) s := by
  unfold mulStep at h
  split at h
  · rename_i z hz
    split at h
    · rename_i s hs
      exact ⟨z, s, hz, hs, (Option.some.inj h).symm⟩
    · cases h
  · cases h
def mulRow (b : List Q2) (f : List Q2) (ix : Nat × Q2) : Option (List Q2) := foldO (fun f (jy : Nat × Q2) => mulStep ix.1 jy.1 ix.2 jy.2 f) f (enumL 0 b)
def qmulO (a b : List Q2) : Option (List Q2) := if a.length = 0 ∨ b.length = 0 then some [] else foldO (mulRow b) (List.replicate (a.length + b.length - 1) (0, 1)) (enumL 0 a)
theorem News.head1 {g h : Heap} {L D : Addr} {o : Obj} {rest : Ledger} (N : News g L h ((D, o) :: rest)) : ∃ D', D' = D ∧ News g L h [(D', o)] :=
  ⟨D, rfl, fun p hp => N p (by rw [List.mem_singleton.mp hp]; exact .head _)⟩
theorem RatObj.ne {g h : Heap} {L D t : Addr} {o : Obj} {q : Q2} {news : Ledger} {vs : List Value} {n : Nat} (x : RatObj o q) (N : News g L h news) (hm : (t, o) ∈ news) (hD : (D, lstO vs n) ∈ news) : t ≠ D :=
  Tups.ne (T := [(t, o)]) (fun p hp => by rw [List.mem_singleton.mp hp]; exact x.1) N hD (fun p hp => by rw [List.mem_singleton.mp hp]; exact hm) (t, o) (.head _)
section
variable {prog : Program} {w : World} {A : Around} {E : Value → Shared → Prop} {s : Shared} {h₀ : Heap} {L D t2 : Addr} {o2 : Obj} {e1 : Addr × Obj} {m : Str → Option Value} {T : Ledger} {vs : List Value} {n : Nat} {k : Int} {t : Tok} {q : Q2}
/-- D[k] = a new ratio at the ledger's head -/
theorem set_S {Q : Unit → Shared → Prop} (F : Fr h₀ L s.heap m) (N : News h₀ L s.heap ((t2, o2) :: e1 :: (D, lstO vs n) :: T)) (ho : RatObj o2 q) (hT : ∀ p ∈ T, p.1 ≠ D) (h0 : 0 ≤ k) (h1 : k < vs.length) (hz : k < 2 ^ 62)
    (h : ∀ h', Fr h₀ L h' m → News h₀ L h' ((D, lstO (vs.set k.toNat (.ref t2)) n) :: (t2, o2) :: T) → Q () { s with heap := h' }) :
    wpAny (model prog w) A (setItem (.ref D) (.int k t) (.ref t2)) Q E s :=
  set_R ((t2, o2) :: T) F N (.tail _ (.tail _ (.head _))) (fun e he => by
    rcases List.mem_cons.mp he with rfl | he
    · exact .head _
    · exact .tail _ (.tail _ (.tail _ he))) (fun e he => by
    rcases List.mem_cons.mp he with rfl | he
    · exact ho.ne N (.head _) (.tail _ (.tail _ (.head _)))
    · exact hT e he) h0 h1 hz h
end
def qsubO (a b : List Q2) : Option (List Q2) := qaddO a (b.map rnegO)
def qscaleO (p : List Q2) (r : Q2) : Option (List Q2) := if r.1 = 0 then some [] else optMap (fun x => rmulO x r) p
def qraiseP (p : List Q2) (k : Nat) : List Q2 := if p = [] then [] else List.replicate k (0, 1) ++ p
def lastQ (p : List Q2) : Q2 := p.getD (p.length - 1) (0, 1)
def divLoop (b : List Q2) : Nat → List Q2 → List Q2 → Option (List Q2 × List Q2)
  | 0, rest, found => if b.length ≤ rest.length then none else some (rest, found)
  | k + 1, rest, found => if b.length ≤ rest.length then
      (match rdivO (lastQ rest) (lastQ b) with
      | none => none
      | some number => match qscaleO (b.take (b.length - 1)) number with
        | none => none
        | some sc => match qsubO (rest.take (rest.length - 1)) (qraiseP sc (rest.length - b.length)) with
          | none => none
          | some lower => if lower.length ≤ 300 ∧ rest.length - b.length < found.length ∧ sc.length ≤ 300 then divLoop b k lower (found.set (rest.length - b.length) number) else none)
    else some (rest, found)
def qdivmodO (a b : List Q2) : Option (List Q2 × List Q2) :=
  if b.length = 0 then none else
  match divLoop b (a.length + 1) a (List.replicate (a.length + 1 - b.length) (0, 1)) with
  | some (rest, found) => some (qtrimP found, rest)
  | none => none
theorem divLoop_stop {b rest found : List Q2} {k : Nat} {r : List Q2 × List Q2} (h : divLoop b k rest found = some r) (hb : ¬ b.length ≤ rest.length) : r = (rest, found) := by
  cases k <;> (unfold divLoop at h; rw [if_neg hb] at h; exact (Option.some.inj h).symm)
theorem divLoop_go {b rest found : List Q2} {k : Nat} {r : List Q2 × List Q2} (h : divLoop b k rest found = some r) (hb : b.length ≤ rest.length) : ∃ k' number sc lower, k = k' + 1 ∧ rdivO (lastQ rest) (lastQ b) = some number ∧ qscaleO (b.take (b.length - 1)) number = some sc ∧
    qsubO (rest.take (rest.length - 1)) (qraiseP sc (rest.length - b.length)) = some lower ∧ lower.length ≤ 300 ∧ rest.length - b.length < found.length ∧ sc.length ≤ 300 ∧ divLoop b k' lower (found.set (rest.length - b.length) number) = some r := by
  cases k with
  | zero =>
    unfold divLoop at h
    rw [if_pos hb] at h
    cases h
  | succ k =>
    unfold divLoop at h
    rw [if_pos hb] at h
    split at h
    · cases h
    · rename_i number h1
      split at h
      · cases h
      · rename_i sc h2
        split at h
        · cases h
        · rename_i lower h3
          split at h
          · rename_i h4
            exact ⟨k, number, sc, lower, rfl, h1, h2, h3, h4.1, h4.2.1, h4.2.2, h⟩
          · cases h
theorem qdivmodO_some {a b : List Q2} {r : List Q2 × List Q2} (h : qdivmodO a b = some r) : b.length ≠ 0 ∧ ∃ rest found, divLoop b (a.length + 1) a (List.replicate (a.length + 1 - b.length) (0, 1)) = some (rest, found) ∧ r = (qtrimP found, rest) := by
  unfold qdivmodO at h
  split at h
  · cases h
  · rename_i hb
    split at h
    · rename_i rest found h1
      exact ⟨hb, rest, found, h1, (Option.some.inj h).symm⟩
    · cases h
theorem getLast_at {g : Heap} {T : Ledger} {vs : List Value} {p : List Q2} {v : Value} {k : Nat} (x : RatsL g T vs p) (hk : k + 1 = vs.length) (e : vs[k]? = some v) : RatL g T v (lastQ p) := by
  have hl := x.length
  have : p.length - 1 = k := by omega
  unfold lastQ
  rw [this]
  exact x.getD' e
theorem getLastB_at {g : Heap} {vs : List Value} {p : List Q2} {v : Value} {k : Nat} (x : RatsAt g vs p) (hk : k + 1 = vs.length) (e : vs[k]? = some v) : RatAt g v (lastQ p) := by
  have hl := x.length
  have : p.length - 1 = k := by omega
  unfold lastQ
  rw [this]
  exact x.getD' e
theorem RatsL.take {g : Heap} {T : Ledger} : ∀ {vs : List Value} {p : List Q2} (k : Nat), RatsL g T vs p → RatsL g T (vs.take k) (p.take k)
  | _, _, 0, _ => trivial
  | [], [], _ + 1, _ => trivial
  | _ :: _, _ :: _, k + 1, x => ⟨x.1, RatsL.take k x.2⟩
  | [], _ :: _, _ + 1, x => x.elim
  | _ :: _, [], _ + 1, x => x.elim
theorem RatsL.nilT {g : Heap} {T : Ledger} : ∀ {vs : List Value} {p : List Q2}, RatsAt g vs p → RatsL g T vs p := RatsL.ofBase
abbrev tupO (xs : Array Value) (n : Nat) : Obj := { cls := .type "tuple", data := .seq xs n }
/-- a pair of new polynomials -/
def PairNew (b h : Heap) (v : Value) (p q : List Q2) : Prop := ∃ t x y n, v = .ref t ∧ b.get? t = none ∧ h.get? t = some (tupO #[x, y] n) ∧ PolyNew b h x p ∧ PolyNew b h y q
theorem News.pick2 {g h : Heap} {L D0 D1 l D2 : Addr} {o0 o1 ol o2 : Obj} (N : News g L h [(D0, o0), (D1, o1), (l, ol), (D2, o2)]) (k : ∀ q ∈ [(l, ol), (D2, o2)], q.1 < D1) : ∃ A B, A = D1 ∧ B = D2 ∧ B ≠ A ∧ News g L h [(A, o1), (B, o2)] :=
  ⟨D1, D2, rfl, rfl, Nat.ne_of_lt (k (D2, o2) (.tail _ (.head _))), fun p hp => by
    rcases List.mem_cons.mp hp with rfl | hp
    · exact N _ (.tail _ (.head _))
    · rw [List.mem_singleton.mp hp]
      exact N _ (.tail _ (.tail _ (.tail _ (.head _))))⟩
structure DivS where
  lr : Addr
  nr : Nat
  vr : List Value
  rest : List Q2
  vf : List Value
  found : List Q2
  T : Ledger
  fuel : Nat
structure DivP (g : Heap) (L DF : Addr) (pb : List Q2) (r : List Q2 × List Q2) (c : DivS) (h : Heap) : Prop where
  N : News g L h ((DF, lstO c.vf 0) :: (c.lr, lstO c.vr c.nr) :: c.T)
  tups : Tups c.T
  rrest : RatsL g c.T c.vr c.rest
  rfound : RatsL g c.T c.vf c.found
  ne : c.lr ≠ DF
  len : c.rest.length ≤ 300
  flen : c.found.length ≤ 400
  run : divLoop pb c.fuel c.rest c.found = some r
section
variable {prog : Program} {w : World} {A : Around} {E : Value → Shared → Prop} {s : Shared} {h₀ : Heap} {L D t2 lr : Addr} {o2 olr : Obj} {e0 : Addr × Obj} {m : Str → Option Value} {T : Ledger} {vs : List Value} {n : Nat} {k : Int} {t : Tok} {q : Q2}
theorem set_D {Q : Unit → Shared → Prop} (F : Fr h₀ L s.heap m) (N : News h₀ L s.heap (e0 :: (t2, o2) :: (D, lstO vs n) :: (lr, olr) :: T)) (ho : RatObj o2 q) (ne : lr ≠ D) (hT : Tups T) (h0 : 0 ≤ k) (h1 : k < vs.length) (hz : k < 2 ^ 62)
    (h : ∀ h', Fr h₀ L h' m → News h₀ L h' ((D, lstO (vs.set k.toNat (.ref t2)) n) :: (lr, olr) :: (t2, o2) :: T) → Q () { s with heap := h' }) :
    wpAny (model prog w) A (setItem (.ref D) (.int k t) (.ref t2)) Q E s :=
  set_R ((lr, olr) :: (t2, o2) :: T) F N (.tail _ (.tail _ (.head _))) (fun e he => by
    rcases List.mem_cons.mp he with rfl | he
    · exact .tail _ (.tail _ (.tail _ (.head _)))
    · rcases List.mem_cons.mp he with rfl | he
      · exact .tail _ (.head _)
      · exact .tail _ (.tail _ (.tail _ (.tail _ he)))) (fun e he => by
    rcases List.mem_cons.mp he with rfl | he
    · exact ne
    · rcases List.mem_cons.mp he with rfl | he
      · exact ho.ne N (.tail _ (.head _)) (.tail _ (.tail _ (.head _)))
      · exact hT.ne N (.tail _ (.tail _ (.head _))) (fun e he => .tail _ (.tail _ (.tail _ (.tail _ he)))) e he) h0 h1 hz h
end
theorem div_pick {g h : Heap} {L l DF : Addr} {o1 o : Obj} {e1 e2 e3 e4 e5 t : Addr × Obj} {Tc U2 U1 U : Ledger} (N : News g L h ((l, o1) :: e1 :: e2 :: e3 :: e4 :: (DF, o) :: e5 :: t :: (Tc ++ U2 ++ U1 ++ U))) : News g L h ((DF, o) :: (l, o1) :: t :: (Tc ++ U)) := by
  intro p hp
  refine N p ?_
  simp only [List.mem_cons, List.mem_append] at hp ⊢
  rcases hp with hp | hp | hp | hp | hp <;> first | walk_at "my or" | simp [hp]
theorem PairNew.ofNews {g h : Heap} {L t : Addr} {news : Ledger} {x y : Value} {n : Nat} {p q : List Q2} (N : News g L h news) (hm : (t, { cls := .type "tuple", data := .seq #[x, y] n }) ∈ news) (hx : PolyNew g h x p) (hy : PolyNew g h y q) : PairNew g h (.ref t) p q :=
  ⟨t, x, y, n, rfl, (N _ hm).2.2, (N _ hm).1, hx, hy⟩
def TripNew (b h : Heap) (v : Value) (r : List Q2 × List Q2 × List Q2) : Prop := ∃ t x y z n, v = .ref t ∧ b.get? t = none ∧ h.get? t = some (tupO #[x, y, z] n) ∧ PolyNew b h x r.1 ∧ PolyNew b h y r.2.1 ∧ PolyNew b h z r.2.2
theorem TripNew.ofNews {g h : Heap} {L t : Addr} {news : Ledger} {x y z : Value} {n : Nat} {r : List Q2 × List Q2 × List Q2} (N : News g L h news) (hm : (t, { cls := .type "tuple", data := .seq #[x, y, z] n }) ∈ news) (hx : PolyNew g h x r.1) (hy : PolyNew g h y r.2.1) (hz : PolyNew g h z r.2.2) : TripNew g h (.ref t) r :=
  ⟨t, x, y, z, n, rfl, (N _ hm).2.2, (N _ hm).1, hx, hy, hz⟩
/-- the ledger bears the polynomial p at v -/
def PolyL (g : Heap) (T : Ledger) (v : Value) (p : List Q2) : Prop := ∃ l n vs, v = .ref l ∧ (l, lstO vs n) ∈ T ∧ RatsL g T vs p
theorem PolyL.at {g h : Heap} {L : Addr} {T news : Ledger} {v : Value} {p : List Q2} (x : PolyL g T v p) (k : g.StaysIn h) (N : News g L h news) (sub : ∀ e ∈ T, e ∈ news) : PolyAt h v p := by
  obtain ⟨l, n, vs, e, hm, hr⟩ := x
  exact ⟨l, n, vs, e, (N _ (sub _ hm)).1, hr.at k N sub⟩
theorem PolyL.new {g h : Heap} {L : Addr} {T news : Ledger} {v : Value} {p : List Q2} (x : PolyL g T v p) (k : g.StaysIn h) (N : News g L h news) (sub : ∀ e ∈ T, e ∈ news) : PolyNew g h v p := by
  obtain ⟨l, n, vs, e, hm, hr⟩ := x
  exact ⟨l, n, vs, e, (N _ (sub _ hm)).2.2, (N _ (sub _ hm)).1, hr.at k N sub⟩
theorem PolyL.mono {g : Heap} {T U : Ledger} {v : Value} {p : List Q2} (x : PolyL g T v p) (sub : ∀ e ∈ T, e ∈ U) : PolyL g U v p := by
  obtain ⟨l, n, vs, e, hm, hr⟩ := x
  exact ⟨l, n, vs, e, sub _ hm, hr.mono sub⟩
section
variable {w : World} {f : Addr} {n : Nat} {vals : List Value} {P : Heap → Prop} {A : Around} {s : Shared} {mean : ExcName → Option Value} {mg mb : Str → Option Value} {h₀ : Heap} {L : Addr} {m : Str → Option Value} {news : Ledger} {env : Env} {Q E : Value → Shared → Prop}
theorem PolyNew.led {b h : Heap} {v : Value} {p : List Q2} (x : PolyNew b h v p) (k : h₀.StaysIn b) (F : Fr h₀ L h m) (N : News h₀ L h news) : ∃ l n vs U, v = .ref l ∧ Tups U ∧ RatsL h₀ U vs p ∧ b.get? l = none ∧ News h₀ L h ((l, lstO vs n) :: (news ++ U)) := by
  obtain ⟨l, n, vs, rfl, hb, e, hr⟩ := x
  obtain ⟨U, hU, NU, rU⟩ := hr.absorb F N
  refine ⟨l, n, vs, U, rfl, hU, rU, hb, fun p hp => ?_⟩
  rcases List.mem_cons.mp hp with rfl | hp
  · exact ⟨e, ns_ne_seq F e rfl, none_down k hb⟩
  · refine NU p ?_
    rcases List.mem_append.mp hp with hp | hp
    · exact List.mem_append_right _ hp
    · exact List.mem_append_left _ hp
theorem Sp.useD {p q : List Q2} (S : Sp w f n vals P (fun b v h => PairNew b h v p q)) (r : Rm A (n + 1)) (X : (hd.heap_1 w.params).In h₀) (T : Top hv (looseW hv []) mean mg mb h₀) (F : Fr h₀ L s.heap m) (N : News h₀ L s.heap news) (hP : P s.heap)
    (k : ∀ t n lq nq vq lr nr vr U h' tk', Tups U → RatsL h₀ U vq p → RatsL h₀ U vr q → Fr h₀ L h' m → News h₀ L h' ((t, tupO #[.ref lq, .ref lr] n) :: (lq, lstO vq nq) :: (lr, lstO vr nr) :: (news ++ U)) → Q (.ref t) { s with heap := h', toks := tk' }) :
    wpAny (model PySem.Challenge.rw_sa0081_01.row.prog w) (A.deeper env) (call (.ref f) vals) Q E s := by
  refine S.use2 r X T F N hP fun v h' tk' st st0 F' N' hR => ?_
  obtain ⟨t, x, y, n, rfl, hb, e, hx, hy⟩ := hR
  obtain ⟨lq, nq, vq, U1, rfl, hU1, rq, hbq, N1⟩ := hx.led st0 F' N'
  obtain ⟨lr, nr, vr, U2, rfl, hU2, rr, hbr, N2⟩ := hy.led st0 F' N1
  refine k t n lq nq vq lr nr vr (U1 ++ U2) h' tk' (hU1.append hU2) (rq.mono fun _ h => List.mem_append_left _ h) (rr.mono fun _ h => List.mem_append_right _ h) F' fun p hp => ?_
  simp only [List.mem_cons, List.mem_append] at hp
  rcases hp with rfl | rfl | rfl | hp | hp | hp
  · exact ⟨e, ns_ne_seq F' e rfl, none_down st0 hb⟩
  · exact N2 _ (by simp)
  · exact N2 _ (by simp)
  · exact N2 _ (by first | walk_at "my mem" | simp [hp])
  · exact N2 _ (by first | walk_at "my mem" | simp [hp])
  · exact N2 _ (by first | walk_at "my mem" | simp [hp])
theorem Sp.useT {r3 : List Q2 × List Q2 × List Q2} (S : Sp w f n vals P (fun b v h => TripNew b h v r3)) (r : Rm A (n + 1)) (X : (hd.heap_1 w.params).In h₀) (T : Top hv (looseW hv []) mean mg mb h₀) (F : Fr h₀ L s.heap m) (N : News h₀ L s.heap news) (hP : P s.heap)
    (k : ∀ t n lq nq vq lr nr vr lz nz vz U h' tk', Tups U → RatsL h₀ U vq r3.1 → RatsL h₀ U vr r3.2.1 → RatsL h₀ U vz r3.2.2 → Fr h₀ L h' m → News h₀ L h' ((t, tupO #[.ref lq, .ref lr, .ref lz] n) :: (lq, lstO vq nq) :: (lr, lstO vr nr) :: (lz, lstO vz nz) :: (news ++ U)) → Q (.ref t) { s with heap := h', toks := tk' }) :
    wpAny (model PySem.Challenge.rw_sa0081_01.row.prog w) (A.deeper env) (call (.ref f) vals) Q E s := by
  refine S.use2 r X T F N hP fun v h' tk' st st0 F' N' hR => ?_
  obtain ⟨t, x, y, z, n, rfl, hb, e, hx, hy, hz⟩ := hR
  obtain ⟨lq, nq, vq, U1, rfl, hU1, rq, hbq, N1⟩ := hx.led st0 F' N'
  obtain ⟨lr, nr, vr, U2, rfl, hU2, rr, hbr, N2⟩ := hy.led st0 F' N1
  obtain ⟨lz, nz, vz, U3, rfl, hU3, rz, hbz, N3⟩ := hz.led st0 F' N2
  refine k t n lq nq vq lr nr vr lz nz vz (U1 ++ (U2 ++ U3)) h' tk' (hU1.append (hU2.append hU3)) (rq.mono fun _ h => by simp [h]) (rr.mono fun _ h => by simp [h]) (rz.mono fun _ h => by simp [h]) F' fun p hp => ?_
  simp only [List.mem_cons, List.mem_append] at hp
  rcases hp with rfl | rfl | rfl | rfl | hp | hp | hp | hp
  · exact ⟨e, ns_ne_seq F' e rfl, none_down st0 hb⟩
  · exact N3 _ (by simp)
  · exact N3 _ (by simp)
  · exact N3 _ (by simp)
  · exact N3 _ (by first | walk_at "my mem" | simp [hp])
  · exact N3 _ (by first | walk_at "my mem" | simp [hp])
  · exact N3 _ (by first | walk_at "my mem" | simp [hp])
  · exact N3 _ (by first | walk_at "my mem" | simp [hp])
end
abbrev Trip := List Q2 × List Q2 × List Q2
def extStep (o p : Trip) : Option Trip := match qdivmodO o.1 p.1 with
  | none => none
  | some (q, rest) => match qmulO q p.2.1, qmulO q p.2.2 with
    | some m1, some m2 => match qsubO o.2.1 m1, qsubO o.2.2 m2 with
      | some left, some right => if (q.length ≤ 300 ∧ rest.length ≤ 300) ∧ (m1.length ≤ 300 ∧ m2.length ≤ 300) ∧ left.length ≤ 300 ∧ right.length ≤ 300 then some (rest, left, right) else none
      | _, _ => none
    | _, _ => none
theorem extStep_some {o p r : Trip} (h : extStep o p = some r) : ∃ q rest m1 m2 left right, qdivmodO o.1 p.1 = some (q, rest) ∧ qmulO q p.2.1 = some m1 ∧ qmulO q p.2.2 = some m2 ∧ qsubO o.2.1 m1 = some left ∧ qsubO o.2.2 m2 = some right ∧ r = (rest, left, right) ∧
    (q.length ≤ 300 ∧ rest.length ≤ 300) ∧ (m1.length ≤ 300 ∧ m2.length ≤ 300) ∧ left.length ≤ 300 ∧ right.length ≤ 300 := by
  unfold extStep at h
  split at h
  · cases h
  · rename_i q rest h1
    split at h
    · rename_i m1 m2 h2 h3
      split at h
      · rename_i left right h4 h5
        split at h
        · rename_i h6
          exact ⟨q, rest, m1, m2, left, right, h1, h2, h3, h4, h5, (Option.some.inj h).symm, h6⟩
        · cases h
      · cases h
    · cases h
def extLoop : Nat → Trip → Trip → Option Trip
  | 0, o, p => if 0 < p.1.length then none else some o
  | k + 1, o, p => if 0 < p.1.length then (match extStep o p with
      | some r => extLoop k p r
      | none => none) else some o
theorem extLoop_stop {o p : Trip} {k : Nat} {r : Trip} (h : extLoop k o p = some r) (hb : ¬ 0 < p.1.length) : r = o := by
  cases k <;> (unfold extLoop at h; rw [if_neg hb] at h; exact (Option.some.inj h).symm)
theorem extLoop_go {o p : Trip} {k : Nat} {r : Trip} (h : extLoop k o p = some r) (hb : 0 < p.1.length) : ∃ k' s, k = k' + 1 ∧ extStep o p = some s ∧ extLoop k' p s = some r := by
  cases k with
  | zero =>
    unfold extLoop at h
    rw [if_pos hb] at h
    cases h
  | succ k =>
    unfold extLoop at h
    rw [if_pos hb] at h
    split at h
    · exact ⟨k, _, rfl, by assumption, h⟩
    · cases h
def extEnd (o : Trip) : Option Trip := if o.1.length = 0 then some ([], [], []) else if okR (lastQ o.1) then match rinvO (lastQ o.1) with
  | none => none
  | some f => match qscaleO o.1 f, qscaleO o.2.1 f, qscaleO o.2.2 f with
    | some x, some y, some z => some (x, y, z)
    | _, _, _ => none
  else none
def qextendedO (a b : List Q2) : Option Trip := match extLoop (a.length + b.length + 2) (a, [(1, 1)], []) (b, [], [(1, 1)]) with
  | some o => if o.1.length ≤ 300 ∧ o.2.1.length ≤ 300 ∧ o.2.2.length ≤ 300 then extEnd o else none
  | none => none
theorem qextendedO_some {a b : List Q2} {r : Trip} (h : qextendedO a b = some r) : ∃ o, extLoop (a.length + b.length + 2) (a, [(1, 1)], []) (b, [], [(1, 1)]) = some o ∧ (o.1.length ≤ 300 ∧ o.2.1.length ≤ 300 ∧ o.2.2.length ≤ 300) ∧ extEnd o = some r := by
  unfold qextendedO at h
  split at h
  · split at h
    · exact ⟨_, by assumption, by assumption, h⟩
    · cases h
  · cases h
theorem extEnd_some {o r : Trip} (h : extEnd o = some r) (h0 : o.1.length ≠ 0) : okR (lastQ o.1) = true ∧ ∃ f x y z, rinvO (lastQ o.1) = some f ∧ qscaleO o.1 f = some x ∧ qscaleO o.2.1 f = some y ∧ qscaleO o.2.2 f = some z ∧ r = (x, y, z) := by
  unfold extEnd at h
  rw [if_neg h0] at h
  split at h
  · refine ⟨by assumption, ?_⟩
    split at h
    · cases h
    · split at h
      · exact ⟨_, _, _, _, by assumption, by assumption, by assumption, by assumption, (Option.some.inj h).symm⟩
      · cases h
  · cases h
structure ExtS where
  t1 : Addr
  n1 : Nat
  x1 : Addr
  nx1 : Nat
  vx1 : List Value
  y1 : Value
  z1 : Value
  t2 : Addr
  n2 : Nat
  x2 : Addr
  nx2 : Nat
  vx2 : List Value
  y2 : Value
  z2 : Value
  o : Trip
  p : Trip
  T : Ledger
  fuel : Nat
structure ExtP (g : Heap) (L : Addr) (e : Trip) (c : ExtS) (h : Heap) : Prop where
  N : News g L h ((c.t1, tupO #[.ref c.x1, c.y1, c.z1] c.n1) :: (c.t2, tupO #[.ref c.x2, c.y2, c.z2] c.n2) :: (c.x1, lstO c.vx1 c.nx1) :: (c.x2, lstO c.vx2 c.nx2) :: c.T)
  rx1 : RatsL g c.T c.vx1 c.o.1
  py1 : PolyL g c.T c.y1 c.o.2.1
  pz1 : PolyL g c.T c.z1 c.o.2.2
  rx2 : RatsL g c.T c.vx2 c.p.1
  py2 : PolyL g c.T c.y2 c.p.2.1
  pz2 : PolyL g c.T c.z2 c.p.2.2
  lo : c.o.1.length ≤ 300 ∧ c.o.2.1.length ≤ 300 ∧ c.o.2.2.length ≤ 300
  lp : c.p.1.length ≤ 300 ∧ c.p.2.1.length ≤ 300 ∧ c.p.2.2.length ≤ 300
  run : extLoop c.fuel c.o c.p = some e
theorem ext_init {w : World} {g h : Heap} {L D0 t1 t2 x1 y1 z1 x2 y2 z2 : Addr} {o0 : Obj} {vsa vsb : List Value} {pa pb : List Q2} {c1 c2 : Nat} {e : Trip} {fuel : Nat} (X : (hd.heap_1 w.params).In g)
    (N : News g L h [(D0, o0), (t2, tupO #[.ref x2, .ref y2, .ref z2] 0), (z2, lstO [.ref 43] 0), (y2, lstO [] 0), (x2, lstO vsb c2), (t1, tupO #[.ref x1, .ref y1, .ref z1] 0), (z1, lstO [] 0), (y1, lstO [.ref 43] 0), (x1, lstO vsa c1)])
    (ha : RatsAt g vsa pa) (hb : RatsAt g vsb pb) (la : pa.length ≤ 300) (lb : pb.length ≤ 300) (run : extLoop fuel (pa, [(1, 1)], []) (pb, [], [(1, 1)]) = some e) :
    ExtP g L e ⟨t1, 0, x1, c1, vsa, .ref y1, .ref z1, t2, 0, x2, c2, vsb, .ref y2, .ref z2, (pa, [(1, 1)], []), (pb, [], [(1, 1)]), [(y1, lstO [.ref 43] 0), (z1, lstO [] 0), (y2, lstO [] 0), (z2, lstO [.ref 43] 0)], fuel⟩ h where
  N := fun p hp => by
    refine N p ?_
    simp only [List.mem_cons, List.not_mem_nil, or_false] at hp ⊢
    rcases hp with hp | hp | hp | hp | hp | hp | hp | hp <;> first | walk_at "my or" | simp [hp]
  rx1 := RatsL.ofBase ha
  py1 := ⟨y1, 0, [.ref 43], rfl, .head _, (show RatsL g _ [.ref 43] [(1, 1)] from ⟨.inl (R1_at X), trivial⟩)⟩
  pz1 := ⟨z1, 0, [], rfl, .tail _ (.head _), (show RatsL g _ [] [] from trivial)⟩
  rx2 := RatsL.ofBase hb
  py2 := ⟨y2, 0, [], rfl, .tail _ (.tail _ (.head _)), (show RatsL g _ [] [] from trivial)⟩
  pz2 := ⟨z2, 0, [.ref 43], rfl, .tail _ (.tail _ (.tail _ (.head _))), (show RatsL g _ [.ref 43] [(1, 1)] from ⟨.inl (R1_at X), trivial⟩)⟩
  lo := ⟨la, by simp, by simp⟩
  lp := ⟨lb, by simp, by simp⟩
  run := run
theorem ext_next {g h : Heap} {L D0 D1 l0 l1 l2 l3 t' lq lr t1 t2 x1 x2 : Addr} {o0 o1 o3 o' oq ot1 ox1 : Obj} {v0 v2 vr vx2 : List Value} {n0 n2' nr n2 nx2 nt : Nat} {y2 z2 : Value} {Tc U4 U3 U2 U1 U0 : Ledger} {rest left right : List Q2} {p e : Trip} {k' : Nat}
    (N : News g L h ((D0, o0) :: (D1, tupO #[.ref lr, .ref l2, .ref l0] nt) :: (l0, lstO v0 n0) :: (l1, o1) :: (l2, lstO v2 n2') :: (l3, o3) :: (t', o') :: (lq, oq) :: (lr, lstO vr nr) :: (t1, ot1) :: (t2, tupO #[.ref x2, y2, z2] n2) :: (x1, ox1) :: (x2, lstO vx2 nx2) :: (Tc ++ U4 ++ U3 ++ U2 ++ U1 ++ U0)))
    (rr : RatsL g U4 vr rest) (r2 : RatsL g U2 v2 left) (r0 : RatsL g U0 v0 right) (rx2 : RatsL g Tc vx2 p.1) (py2 : PolyL g Tc y2 p.2.1) (pz2 : PolyL g Tc z2 p.2.2)
    (lp : p.1.length ≤ 300 ∧ p.2.1.length ≤ 300 ∧ p.2.2.length ≤ 300) (ln : rest.length ≤ 300 ∧ left.length ≤ 300 ∧ right.length ≤ 300) (run : extLoop k' p (rest, left, right) = some e) :
    ExtP g L e ⟨t2, n2, x2, nx2, vx2, y2, z2, D1, nt, lr, nr, vr, .ref l2, .ref l0, p, (rest, left, right), (l2, lstO v2 n2') :: (l0, lstO v0 n0) :: (Tc ++ U4 ++ U3 ++ U2 ++ U1 ++ U0), k'⟩ h where
  N := fun q hq => by
    refine N q ?_
    simp only [List.mem_cons, List.mem_append] at hq ⊢
    rcases hq with hq | hq | hq | hq | hq | hq | hq <;> simp [hq]
  rx1 := rx2.mono fun _ h => by simp [h]
  py1 := py2.mono fun _ h => by simp [h]
  pz1 := pz2.mono fun _ h => by simp [h]
  rx2 := rr.mono fun _ h => by simp [h]
  py2 := ⟨l2, n2', v2, rfl, .head _, r2.mono fun _ h => by simp [h]⟩
  pz2 := ⟨l0, n0, v0, rfl, .tail _ (.head _), r0.mono fun _ h => by simp [h]⟩
  lo := lp
  lp := ln
  run := run
def RetM (g : Heap) (s : Shared) (R : Value → Ledger → Prop) (v : Value) (s' : Shared) : Prop := ∃ h' tk' M', s' = { s with heap := h', toks := tk' } ∧ g.StaysIn h' ∧ (∀ p ∈ M', h'.get? p.1 = some p.2 ∧ g.get? p.1 = none) ∧ R v M'
theorem RetM.of {g h : Heap} {L : Addr} {m : Str → Option Value} {s : Shared} {R : Value → Ledger → Prop} {v : Value} {news : Ledger} {tk : Nat} (M' : Ledger) (F : Fr g L h m) (N : News g L h news) (sub : ∀ e ∈ M', e ∈ news) (r : R v M') : RetM g s R v { s with heap := h, toks := tk } :=
  ⟨h, tk, M', rfl, F.keep, fun p hp => ⟨(N p (sub p hp)).1, (N p (sub p hp)).2.2⟩, r⟩
/-- a def that changes the objects of a ledger M -/
def SpM (w : World) (f : Addr) (n : Nat) (vs : List Value) (M : Ledger) (R : Value → Ledger → Prop) : Prop :=
  ∀ (A : Around) (s : Shared) (mean : ExcName → Option Value) (mg mb : Str → Option Value) (g : Heap), Rm A n → (hd.heap_1 w.params).In g → Top hv (looseW hv []) mean mg mb g → g.StaysIn s.heap → g.objs.size ≤ s.heap.objs.size → (∀ p ∈ M, s.heap.get? p.1 = some p.2 ∧ g.get? p.1 = none) →
    wpAny (model PySem.Challenge.rw_sa0081_01.row.prog w) A (call (.ref f) vs) (RetM g s R) NoE s
theorem SpM.def {w : World} {f : Addr} {n : Nat} {vs : List Value} {M : Ledger} {R : Value → Ledger → Prop}
    {name qual : Str} {params : Arguments} {body : List Stmt} {scope : Scope} {dV kV doc pm cdv ct oc : Value} {an od : Option Addr} {osl : Array (Option Value)} (binds : List (Str × Value))
    (ho : (hd.heap_1 w.params).lookup f = some ⟨oc, od, .func (fnOf name qual params body scope dV kV doc pm an cdv ct), osl⟩) (hcd : codeIn (hd.heap_1 w.params) cdv qual = true)
    (hbind : bindArgs (fnOf name qual params body scope dV kV doc pm an cdv ct) ⟨vs, []⟩ = pure binds) (hloc : ∀ y ∈ binds, scope.names.lookup y.1 = some .local)
    (hco : scope.isCoroutine = false) (hgen : scope.isGenerator = false) (hk : scope.kind = .function) (hcell : ∀ x ∈ scope.names, x.2 ≠ .cell)
    (h : ∀ (dp un : Nat) (fr : Option (List Env)) (gd : Option (List Code)) (s : Shared) (mean : ExcName → Option Value) (mg mb : Str → Option Value) (g : Heap) (L : Addr) (h₁ : Heap) (tk : Nat), Rm { handled := none, depth := dp, frames := fr, guards := gd, units := un } (n + 1) →
      (hd.heap_1 w.params).In g → Top hv (looseW hv []) mean mg mb g → Fr g L h₁ (fun y => binds.reverse.lookup y) → News g L h₁ M →
      wpAny (model PySem.Challenge.rw_sa0081_01.row.prog w) (Around.deeper { handled := none, depth := dp, frames := fr, guards := gd, units := un } (envOf qual scope L f cdv)) (execs body (envOf qual scope L f cdv))
        (fun fl s' => RetM g s R (match fl with | .ret v => v | _ => .none) s') NoE { s with heap := h₁, toks := tk }) : SpM w f (n + 1) vs M R := by
  intro A s mean mg mb g rm X T st sz hM
  obtain ⟨hdl, dp, fr, gd, un⟩ := A
  obtain rfl : hdl = none := rm.hd
  refine wpAny_call (codeAny_call_def (fd := fnOf name qual params body scope dV kV doc pm an cdv ct) (body := body) (binds := binds) rm.room (st _ _ (X _ _ ho)) rfl (T.nolimit.keeps st) (codeRec_of (X.keeps st) hcd) rfl (BindsTo.of_eq hbind) hcell hloc (fun h₁ hns hk₁ => ?_) hco hgen hk)
  refine wpAny_mono (h dp un fr gd s mean mg mb g s.heap.objs.size h₁ _ rm X T ⟨hns, fun b o e => hk₁ b o (st b o e), sz⟩ (fun p hp => ⟨hk₁ _ _ (hM p hp).1, ?_, (hM p hp).2⟩)) (fun _ _ q => q) (fun _ _ q => q.elim)
  exact Nat.ne_of_lt (Heap.lt_size (hM p hp).1)
theorem SpM.use {w : World} {f : Addr} {n : Nat} {vs : List Value} {M : Ledger} {R : Value → Ledger → Prop} (S : SpM w f n vs M R) {A : Around} {s : Shared} {mean : ExcName → Option Value} {mg mb : Str → Option Value} {h₀ : Heap} {L : Addr} {m : Str → Option Value} {news : Ledger} {env : Env} {Q E : Value → Shared → Prop}
    (r : Rm A (n + 1)) (X : (hd.heap_1 w.params).In h₀) (T : Top hv (looseW hv []) mean mg mb h₀) (F : Fr h₀ L s.heap m) (N : News h₀ L s.heap news) (rest : Ledger) (hM : ∀ e ∈ M, e ∈ news) (hr : ∀ e ∈ rest, e ∈ news) (hne : ∀ e ∈ rest, ∀ d ∈ M, e.1 ≠ d.1)
    (k : ∀ v M' h' tk', R v M' → Fr h₀ L h' m → News h₀ L h' (M' ++ rest) → (∀ e ∈ rest, ∀ d ∈ M', e.1 ≠ d.1) → Q v { s with heap := h', toks := tk' }) :
    wpAny (model PySem.Challenge.rw_sa0081_01.row.prog w) (A.deeper env) (call (.ref f) vs) Q E s := by
  have hin : ∀ a, a ∈ M.map (·.1) → ∃ d ∈ M, d.1 = a := fun a ha => by
    obtain ⟨d, hd, e⟩ := List.mem_map.mp ha
    exact ⟨d, hd, e⟩
  have st0 : h₀.StaysIn (hideAll s.heap (M.map (·.1))) := fun b o e => hideAll_get _ (F.keep _ _ e) fun hb => by
    obtain ⟨d, hd, rfl⟩ := hin _ hb
    have := (N d (hM d hd)).2.2
    rw [e] at this
    cases this
  have keepL : ∀ o, s.heap.get? L = some o → (hideAll s.heap (M.map (·.1))).get? L = some o := fun o e => hideAll_get _ e fun hb => by
    obtain ⟨d, hd, e⟩ := hin _ hb
    exact (N d (hM d hd)).2.1 e
  have hX : (hd.heap_1 w.params).In (hideAll s.heap (M.map (·.1))) := Frag.In.keeps X st0
  have hT : Top hv (looseW hv []) mean mg mb (hideAll s.heap (M.map (·.1))) := Top.keeps T st0
  refine wpAny_mono (S (A.deeper env) s mean mg mb _ r.deeper hX hT (fun b o e => of_hideAll _ e) (Nat.le_of_eq (hideAll_size _ _)) (fun p hp => ⟨(N p (hM p hp)).1, hideAll_none _ (List.mem_map_of_mem hp)⟩)) ?_ (fun _ _ x => x.elim)
  rintro v s' ⟨h', tk', M', rfl, st, hM', hR⟩
  refine k v M' h' tk' hR ⟨F.ns.at' fun o e => st _ _ (keepL o e), fun b o e => st _ _ (st0 _ _ e), F.above⟩ (fun p hp => ?_) (fun e he d hd q => ?_)
  · rcases List.mem_append.mp hp with hp | hp
    · refine ⟨(hM' p hp).1, ?_, none_down st0 (hM' p hp).2⟩
      intro e
      obtain ⟨o, _, _, eo, _⟩ := F.ns
      have := keepL o eo
      rw [← e, (hM' p hp).2] at this
      cases this
    · have y := N p (hr p hp)
      refine ⟨st _ _ (hideAll_get _ y.1 fun hb => ?_), y.2⟩
      obtain ⟨d, hd, e⟩ := hin _ hb
      exact hne p hp d hd e.symm
  · have y := N e (hr e he)
    have z : (hideAll s.heap (M.map (·.1))).get? e.1 = some e.2 := hideAll_get _ y.1 fun hb => by
      obtain ⟨d', hd', e'⟩ := hin _ hb
      exact hne e he d' hd' e'.symm
    rw [q, (hM' d hd).2] at z
    cases z
/-- the law's box: its list of draws and its count -/
def boxM (DB DS : Addr) (nB nS : Nat) (k : Int) (t : Tok) (vs : List Value) : Ledger := [(DB, lstO [.ref DS, .int k t] nB), (DS, lstO vs nS)]
def Box (DB DS : Addr) (M : Ledger) : Prop := ∃ nB nS k t vs ns, M = boxM DB DS nB nS k t vs ∧ IntsAre vs ns ∧ vs.length ≤ 100
def qD (p : List Q2) : List PyData := p.map fun q => .tuple [.int q.1, .int q.2]
def iD (ns : List Int) : List PyData := ns.map .int
theorem rat_reads {h : Heap} {v : Value} {q : Q2} (x : RatAt h v q) : ∃ as, Reads h v (.tuple [.int q.1, .int q.2]) as := by
  obtain ⟨t, a, b, rfl, o, e, hc, n, hd⟩ := x
  exact ⟨_, .tuple e hc hd (.cons (.int _ _) (.cons (.int _ _) .nil))⟩
theorem rats_reads {h : Heap} : ∀ {vs : List Value} {p : List Q2}, RatsAt h vs p → ∃ as, ReadsAll h vs (qD p) as
  | [], [], _ => ⟨_, .nil⟩
  | _ :: _, _ :: _, x => by
    obtain ⟨as, ra⟩ := rat_reads x.1
    obtain ⟨bs, rb⟩ := rats_reads x.2
    exact ⟨_, .cons ra rb⟩
  | [], _ :: _, x => x.elim
  | _ :: _, [], x => x.elim
theorem poly_reads {h : Heap} {v : Value} {p : List Q2} (x : PolyAt h v p) : ∃ as, Reads h v (.list (qD p)) as := by
  obtain ⟨l, n, vs, rfl, e, hr⟩ := x
  obtain ⟨as, ra⟩ := rats_reads hr
  exact ⟨_, .list e rfl rfl ra⟩
theorem ints_reads {h : Heap} : ∀ {vs : List Value} {ns : List Int}, IntsAre vs ns → ∃ as, ReadsAll h vs (iD ns) as
  | _, _, .nil => ⟨_, .nil⟩
  | _, _, .cons _ _ r => by
    obtain ⟨bs, rb⟩ := ints_reads (h := h) r
    exact ⟨_, .cons (.int _ _) rb⟩
/-- a list of ints -/
def IntL (h : Heap) (v : Value) (ns : List Int) : Prop := ∃ l n vs, v = .ref l ∧ h.get? l = some (lstO vs n) ∧ IntsAre vs ns
theorem intl_reads {h : Heap} {v : Value} {ns : List Int} (x : IntL h v ns) : ∃ as, Reads h v (.list (iD ns)) as := by
  obtain ⟨l, n, vs, rfl, e, hr⟩ := x
  obtain ⟨as, ra⟩ := ints_reads (h := h) hr
  exact ⟨_, .list e rfl rfl ra⟩
theorem qD_lay : ∀ p : List Q2, PyData.canLayAll0 (qD p) = true ∧ PyData.depthAll (qD p) ≤ 8
  | [] => by simp [qD, PyData.canLayAll0, PyData.depthAll]
  | q :: p => by
    have := qD_lay p
    simp only [qD] at this
    simp only [qD, List.map_cons, PyData.canLayAll0, PyData.depthAll, PyData.canLay0, PyData.depth, this.1]
    refine ⟨by simp, ?_⟩
    have := this.2
    omega
theorem iD_lay : ∀ p : List Int, PyData.canLayAll0 (iD p) = true ∧ PyData.depthAll (iD p) ≤ 8
  | [] => by simp [iD, PyData.canLayAll0, PyData.depthAll]
  | q :: p => by
    have := iD_lay p
    simp only [iD] at this
    simp only [iD, List.map_cons, PyData.canLayAll0, PyData.depthAll, PyData.canLay0, PyData.depth, this.1]
    refine ⟨by simp, ?_⟩
    have := this.2
    omega
theorem qD_shaped (p : List Q2) : SeqAt.shaped (.list (qD p)) = true := by
  have l := qD_lay p
  unfold SeqAt.shaped
  simp only [PyData.canLay0, PyData.depth, l.1, Bool.true_and]
  exact decide_eq_true (by have := l.2; omega)
theorem iD_shaped (p : List Int) : SeqAt.shaped (.list (iD p)) = true := by
  have l := iD_lay p
  unfold SeqAt.shaped
  simp only [PyData.canLay0, PyData.depth, l.1, Bool.true_and]
  exact decide_eq_true (by have := l.2; omega)
theorem qD_eqv : ∀ p q : List Q2, PyData.eqvAll (qD p) (qD q) = decide (p = q)
  | [], [] => by simp [qD, PyData.eqvAll]
  | [], _ :: _ => by simp [qD, PyData.eqvAll]
  | _ :: _, [] => by simp [qD, PyData.eqvAll]
  | (a, b) :: p, (c, d) :: q => by
    have := qD_eqv p q
    simp only [qD] at this
    simp only [qD, List.map_cons, PyData.eqvAll, PyData.eqv, this]
    by_cases h1 : a = c <;> by_cases h2 : b = d <;> by_cases h3 : p = q <;> simp [h1, h2, h3]
theorem iD_eqv : ∀ p q : List Int, PyData.eqvAll (iD p) (iD q) = decide (p = q)
  | [], [] => by simp [iD, PyData.eqvAll]
  | [], _ :: _ => by simp [iD, PyData.eqvAll]
  | _ :: _, [] => by simp [iD, PyData.eqvAll]
  | a :: p, c :: q => by
    have := iD_eqv p q
    simp only [iD] at this
    simp only [iD, List.map_cons, PyData.eqvAll, PyData.eqv, this]
    by_cases h1 : a = c <;> by_cases h3 : p = q <;> simp [h1, h3]
theorem Rm.cmp {A : Around} {n : Nat} {env : Env} (h : Rm A n) : (A.deeper env).units + 64 < cLine := by have := h.un; show A.units + 3 + 64 < 9900; omega
section
variable {prog : Program} {w : World} {A : Around} {E : Value → Shared → Prop} {s : Shared} {v u : Value} {p q : List Q2} {ns ms : List Int} {Q : Value → Shared → Prop}
theorem cmpEq_P (hp : PolyAt s.heap v p) (hq : PolyAt s.heap u q) (hu : A.units + 64 < cLine) (h : Q (.bool (decide (p = q))) s) : wpAny (model prog w) A (compareOp .Eq v u) Q E s := by
  obtain ⟨as, ra⟩ := poly_reads hp
  obtain ⟨bs, rb⟩ := poly_reads hq
  refine eq_dataH ra rb (qD_shaped p) (qD_shaped q) hu ?_
  rw [PyData.eqv, qD_eqv]
  exact h
theorem cmpNe_P (hp : PolyAt s.heap v p) (hq : PolyAt s.heap u q) (hu : A.units + 64 < cLine) (h : Q (.bool (!decide (p = q))) s) : wpAny (model prog w) A (compareOp .NotEq v u) Q E s := by
  obtain ⟨as, ra⟩ := poly_reads hp
  obtain ⟨bs, rb⟩ := poly_reads hq
  refine ne_dataH ra rb (qD_shaped p) (qD_shaped q) hu ?_
  rw [PyData.eqv, qD_eqv]
  exact h
theorem cmpNe_I (hp : IntL s.heap v ns) (hq : IntL s.heap u ms) (hu : A.units + 64 < cLine) (h : Q (.bool (!decide (ns = ms))) s) : wpAny (model prog w) A (compareOp .NotEq v u) Q E s := by
  obtain ⟨as, ra⟩ := intl_reads hp
  obtain ⟨bs, rb⟩ := intl_reads hq
  refine ne_dataH ra rb (iD_shaped ns) (iD_shaped ms) hu ?_
  rw [PyData.eqv, iD_eqv]
  exact h
end
section
variable {prog : Program} {w : World} {A : Around} {E : Value → Shared → Prop} {s : Shared} {h₀ : Heap} {L D : Addr} {m : Str → Option Value} {news rest : Ledger} {n : Nat}
/-- D.pop(0) -/
theorem pop0_R {y : Value} {vs : List Value} {u : Tok} {Q : Value → Shared → Prop} (rest : Ledger) (F : Fr h₀ L s.heap m) (N : News h₀ L s.heap news) (hm : (D, lstO (y :: vs) n) ∈ news) (sub : ∀ e ∈ rest, e ∈ news) (hT : ∀ p ∈ rest, p.1 ≠ D) (hz : (y :: vs).length ≤ 16384)
    (h : ∀ h', Fr h₀ L h' m → News h₀ L h' ((D, lstO vs (n + 1)) :: rest) → Q y { s with heap := h' }) : wpAny (model prog w) A (call (.builtin "list.pop") [.ref D, .int 0 u]) Q E s := by
  have N' : News h₀ L s.heap ((D, listOf (y :: vs).toArray n) :: rest) := fun p hp => by
    rcases List.mem_cons.mp hp with rfl | hp
    · exact N _ hm
    · exact N _ (sub p hp)
  exact kl_popAt (p := []) (q := vs) (k := 0) F N' rfl (by simp [seqIndex?]) rfl (Upd.head hT) (by rw [sizeLine_eq]; have := hz; simp only [List.length_cons] at this; show (y :: vs).length ≤ _; simp only [List.length_cons]; omega) h
end
def itrim (ns : List Int) : List Int := (ns.reverse.dropWhile (· == 0)).reverse
theorem itrim_zero (ms : List Int) : itrim (ms ++ [0]) = itrim ms := by simp [itrim]
theorem itrim_ne (ms : List Int) {x : Int} (h : x ≠ 0) : itrim (ms ++ [x]) = ms ++ [x] := by simp [itrim, h]
def rowP (ns : List Int) : List Q2 := (itrim ns).map fun x => (x, 1)
theorem ints_concat {vs : List Value} {ms : List Int} {x : Int} (h : IntsAre vs (ms ++ [x])) : ∃ ws t, vs = ws ++ [.int x t] ∧ IntsAre ws ms := by
  induction ms generalizing vs with
  | nil =>
    cases h with
    | cons _ t r => cases r; exact ⟨[], t, rfl, .nil⟩
  | cons m ms ih =>
    cases h with
    | cons _ t r =>
      obtain ⟨ws, t', rfl, hw⟩ := ih r
      exact ⟨.int m t :: ws, t', rfl, .cons _ _ hw⟩
theorem last_concat {ws : List Value} {y v : Value} {k : Nat} (hk : k = ws.length) (h : (ws ++ [y])[k]? = some v) : v = y := by
  subst hk
  simpa using h.symm
section
variable {prog : Program} {w : World} {A : Around} {h₀ : Heap} {L : Addr} {m : Str → Option Value} {env : Env} {elt : PySem.Expr} {x : Str} {scope : Scope} {cl : List (Str × Addr)} {s : Shared} {S : Ledger → Prop} {P : Nat → Value → Prop} {Fin : List Value → Ledger → Prop} {news : Ledger}
def El2 (h₀ : Heap) (L : Addr) (m : Str → Option Value) (s : Shared) (all : Ledger) (q : Q2) (y : Value) (s₂ : Shared) : Prop :=
  ∃ h' tk', s₂ = { s with heap := h', toks := tk' } ∧ Fr h₀ L h' m ∧ ((∃ t o, News h₀ L h' ((t, o) :: all) ∧ y = .ref t ∧ RatObj o q ∧ ∀ e ∈ all, e.1 ≠ t) ∨ (News h₀ L h' all ∧ RatAt h₀ y q))
theorem comp_rats2 {n : Nat} (f : Nat → Q2) (hS : ∀ T, S (news ++ T))
    (turn : ∀ i v I oI C oC D m₂ ys T h tk (E' : Value → Shared → Prop), i < n → P i v → LCg.NsObj oC m₂ → m₂ x = some v → Fr h₀ L h m → News h₀ L h ((I, oI) :: (C, oC) :: (D, LCg.lst ys) :: (news ++ T)) → 
      wpAny (model prog w) A (eval elt (compEnvC scope cl C env)) (El2 h₀ L m { s with heap := h, toks := tk } ((I, oI) :: (C, oC) :: (D, LCg.lst ys) :: (news ++ T)) (f i)) E' { s with heap := h, toks := tk })
    (fin : ∀ T ys, Tups T → RatsL h₀ T ys ((List.range n).map f) → Fin ys (news ++ T)) : LCg.CompRest prog w A h₀ L m env elt x scope cl s S P Fin n 0 [] news := by
  have key : ∀ (j i : Nat) (ys : List Value) (T : Ledger), i + j = n → Tups T → RatsL h₀ T ys ((List.range i).map f) → LCg.CompRest prog w A h₀ L m env elt x scope cl s S P Fin j i ys (news ++ T) := by
    intro j
    induction j with
    | zero =>
      intro i ys T hi hT hy
      obtain rfl : i = n := by omega
      exact LCg.CompRest.zero (fin T ys hT hy)
    | succ j ih =>
      intro i ys T hi hT hy
      refine LCg.CompRest.succ ?_
      intro v I oI C oC D m₂ h tk E' hv hC hx F N off ne
      refine wpAny_mono (turn i v I oI C oC D m₂ ys T h tk E' (by omega) hv hC hx F N) (fun y s₂ hq => ?_) fun _ _ e => e
      obtain ⟨h', tk', rfl, F', ⟨t, o, N', rfl, ho, hap⟩ | ⟨N', hr⟩⟩ := hq
      · refine ⟨h', tk', news ++ (T ++ [(t, o)]), rfl, F', fun p hp => N' p ?_, LCg.Off3.of fun p hp => ?_, hS _, ?_⟩
        · rw [← List.append_assoc] at hp
          simp only [List.mem_cons, List.mem_append, List.not_mem_nil, or_false] at hp ⊢
          rcases hp with hp | hp | hp | hp | hp <;> first | walk_at "my or" | simp [hp]
        · rw [← List.append_assoc] at hp
          rcases List.mem_append.mp hp with hp | hp
          · exact off.mem p hp
          · rw [List.mem_singleton.mp hp]
            exact ⟨(hap _ (.head _)).symm, (hap _ (.tail _ (.head _))).symm, (hap _ (.tail _ (.tail _ (.head _)))).symm⟩
        · refine ih (i + 1) (ys ++ [.ref t]) (T ++ [(t, o)]) (by omega) (hT.append ?_) ?_
          · intro p hp
            rw [List.mem_singleton.mp hp]
            exact ho.1
          · rw [List.range_succ, List.map_append]
            exact (hy.mono fun _ h => List.mem_append_left _ h).append ⟨(ho.led (T := [(t, o)]) (.head _)).mono fun _ h => List.mem_append_right _ h, trivial⟩
      · refine ⟨h', tk', news ++ T, rfl, F', N', off, hS _, ?_⟩
        refine ih (i + 1) (ys ++ [y]) T (by omega) hT ?_
        rw [List.range_succ, List.map_append]
        exact hy.append ⟨.inl hr, trivial⟩
  have := key n 0 [] [] (by omega) Tups.nil trivial
  rw [List.append_nil] at this
  exact this
end
theorem AllLt.ne {t : Addr} : ∀ {l : Ledger}, AllLt t l → ∀ e ∈ l, e.1 ≠ t
  | [], _, _, h => nomatch h
  | p :: r, x, e, h => by
    rcases List.mem_cons.mp h with rfl | h
    · exact Nat.ne_of_lt x.1
    · exact AllLt.ne x.2 e h
theorem RatObj.tup {x y : Int} {tx ty : Tok} {n : Nat} : RatObj (tupO #[.int x tx, .int y ty] n) (x, y) := ⟨rfl, tx, ty, n, rfl⟩
section
variable {prog : Program} {w : World} {A : Around} {s : Shared} {env : Env} {g : Heap} {L : Addr} {Q : Flow → Shared → Prop}
def WX {σ : Type} (g : Heap) (L : Addr) (s : Shared) (ps : σ → List (Str × Value)) (P : σ → Heap → Prop) (Ex : σ → Prop) (s₂ : Shared) : Prop :=
  ∃ c h tk m', s₂ = { s with heap := h, toks := tk } ∧ Fr g L h m' ∧ (∀ p ∈ ps c, m' p.1 = some p.2) ∧ P c h ∧ Ex c
theorem while_X {σ : Type} {test : PySem.Expr} {body : List Stmt} {pos : Pos} {m : Str → Option Value} (ps : σ → List (Str × Value)) (P : σ → Heap → Prop) (μ : σ → Nat) (Ex : σ → Prop) (c₀ : σ)
    (F : Fr g L s.heap m) (hk : ∀ p ∈ ps c₀, m p.1 = some p.2) (h0 : P c₀ s.heap)
    (turn : ∀ c u h tk, P c h → Fr g L h (over (ps c) u) →
      wpAny (model prog w) A (isTrue test env (eval test env)) (fun b s₂ =>
        if b = true then wpAny (model prog w) A (execs body env) (WEnd g L s ps P μ (fun f s₃ => f = .next ∧ WX g L s ps P Ex s₃) (μ c)) NoE s₂ else WX g L s ps P Ex s₂) NoE { s with heap := h, toks := tk })
    (fin : ∀ c u h tk, P c h → Ex c → Fr g L h (over (ps c) u) → Q .next { s with heap := h, toks := tk }) :
    wpAny (model prog w) A (exec (.While test body [] pos) env) Q NoE s := by
  refine wpAny_mono (while_K (Q := fun f s₃ => f = .next ∧ WX g L s ps P Ex s₃) ps P μ c₀ F hk h0 fun c u h tk hp hf => ?_) (fun f s₃ h₃ => ?_) fun _ _ x => x
  · refine wpAny_mono (turn c u h tk hp hf) (fun b s₂ h₂ => ?_) fun _ _ x => x
    cases b with
    | false =>
      simp only [Bool.false_eq_true, if_false] at h₂ ⊢
      exact ⟨trivial, h₂⟩
    | true =>
      simp only [if_true] at h₂ ⊢
      exact h₂
  · obtain ⟨rfl, c, h, tk, m', rfl, F', hk', hp, hx⟩ := h₃
    exact fin c m' h tk hp hx (by rw [over_eq hk']; exact F')
end
def tmStep (i : Nat) (x : Int) (f : List Int) (jy : Nat × Int) : List Int := f.set (i + jy.1) (f.getD (i + jy.1) 0 + x * jy.2)
def tmRow (b : List Int) (f : List Int) (ix : Nat × Int) : List Int := (enumL 0 b).foldl (tmStep ix.1 ix.2) f
def timesP (a b : List Int) : List Int := (enumL 0 a).foldl (tmRow b) (List.replicate (a.length + b.length - 1) 0)
def IntNew (b h : Heap) (v : Value) (ns : List Int) : Prop := ∃ l n vs, v = .ref l ∧ b.get? l = none ∧ h.get? l = some (lstO vs n) ∧ IntsAre vs ns
theorem IntNew.ofNews {h₀ h : Heap} {L l : Addr} {news : List (Addr × Obj)} {vs : List Value} {n : Nat} {ns : List Int} (N : News h₀ L h news) (hm : (l, lstO vs n) ∈ news) (hr : IntsAre vs ns) : IntNew h₀ h (.ref l) ns :=
  ⟨l, n, vs, rfl, (N _ hm).2.2, (N _ hm).1, hr⟩
theorem IntL.keeps {h h' : Heap} {v : Value} {ns : List Int} (x : IntL h v ns) (k : h.StaysIn h') : IntL h' v ns := let ⟨l, n, vs, e, g, r⟩ := x; ⟨l, n, vs, e, k _ _ g, r⟩
theorem ints_set' {x : Int} {u : Tok} : ∀ {vs : List Value} {ns : List Int}, IntsAre vs ns → ∀ j : Nat, IntsAre (vs.set j (.int x u)) (ns.set j x) := fun h j => ints_set h j
theorem ints_repl (t : Tok) : ∀ k, IntsAre (List.replicate k (.int 0 t)) (List.replicate k 0)
  | 0 => .nil
  | k + 1 => .cons _ _ (ints_repl t k)
theorem foldl_end {α β : Type} {f : β → α → β} {b z : β} (h : ([] : List α).foldl f b = z) : z = b := h.symm
def FacL (T : Ledger) : List Value → List (List Int) → Prop
  | [], [] => True
  | v :: vs, f :: fs => (∃ l n us, v = .ref l ∧ (l, lstO us n) ∈ T ∧ IntsAre us f) ∧ FacL T vs fs
  | _, _ => False
/-- what the law's draws can give -/
inductive Shape : List (List Int) → List Int → Prop
  | three (a b c : Int) : 0 ≤ a → a < 3 → 0 ≤ b → b < 3 → 0 ≤ c → c < 2 → Shape [[0 - (a - 3), 1], [0 - b, 1], [0 - (3 + c), 1]] [a - 3, b, 3 + c]
  | two (a b : Int) : 0 ≤ a → a < 3 → 0 ≤ b → b < 3 → Shape [[0 - (a - 3), 1], [0 - b, 1]] [a - 3, b]
  | quad (a b : Int) : 0 ≤ a → a < 3 → 0 ≤ b → b < 3 → Shape [[0 - (a - 3), 1], [1 + b, 0, 1]] [a - 3]
def FactorsR (DB DS : Addr) (v : Value) (M' : Ledger) : Prop :=
  ∃ t nt lf nf vf lr nr vr Tf B facs roots, v = .ref t ∧ M' = (t, tupO #[.ref lf, .ref lr] nt) :: (lf, lstO vf nf) :: (lr, lstO vr nr) :: (Tf ++ B) ∧ Box DB DS B ∧ FacL Tf vf facs ∧ IntsAre vr roots ∧ Shape facs roots ∧
    ((t ≠ DB ∧ t ≠ DS) ∧ (lf ≠ DB ∧ lf ≠ DS) ∧ (lr ≠ DB ∧ lr ≠ DS) ∧ ∀ e ∈ Tf, e.1 ≠ DB ∧ e.1 ≠ DS)
theorem box_lt {DB DS t : Addr} {M : Ledger} (hB : Box DB DS M) (x : AllLt t M) : t ≠ DB ∧ t ≠ DS := by
  obtain ⟨nB, nS, k, u, vs, ns, rfl, _, _⟩ := hB
  exact ⟨Ne.symm (AllLt.ne x _ (.head _)), Ne.symm (AllLt.ne x _ (.tail _ (.head _)))⟩
theorem FacL.mono {T U : Ledger} : ∀ {vs : List Value} {fs : List (List Int)}, FacL T vs fs → (∀ e ∈ T, e ∈ U) → FacL U vs fs
  | [], [], _, _ => trivial
  | _ :: _, _ :: _, x, k => ⟨let ⟨l, n, us, e, hm, hi⟩ := x.1; ⟨l, n, us, e, k _ hm, hi⟩, FacL.mono x.2 k⟩
  | [], _ :: _, x, _ => x.elim
  | _ :: _, [], x, _ => x.elim
theorem FacL.append {T : Ledger} : ∀ {vs ws : List Value} {p q : List (List Int)}, FacL T vs p → FacL T ws q → FacL T (vs ++ ws) (p ++ q)
  | [], _, [], _, _, y => y
  | _ :: _, _, _ :: _, _, x, y => ⟨x.1, FacL.append x.2 y⟩
  | [], _, _ :: _, _, x, _ => x.elim
  | _ :: _, _, [], _, x, _ => x.elim
theorem FacL.length {T : Ledger} : ∀ {vs : List Value} {p : List (List Int)}, FacL T vs p → vs.length = p.length
  | [], [], _ => rfl
  | _ :: _, _ :: _, x => congrArg (· + 1) (FacL.length x.2)
  | [], _ :: _, x => x.elim
  | _ :: _, [], x => x.elim
theorem FacL.get {T : Ledger} : ∀ {vs : List Value} {p : List (List Int)} {i : Nat} {v : Value}, FacL T vs p → vs[i]? = some v → ∃ f, p[i]? = some f ∧ ∃ l n us, v = .ref l ∧ (l, lstO us n) ∈ T ∧ IntsAre us f
  | _ :: _, _ :: _, 0, _, x, e => by cases e; exact ⟨_, rfl, x.1⟩
  | _ :: _, _ :: _, i + 1, _, x, e => by
    have := FacL.get (i := i) x.2 (by simpa using e)
    simpa using this
  | [], _, _, _, _, e => by simp at e
  | _ :: _, [], _, _, x, _ => x.elim
section
variable {prog : Program} {w : World} {A : Around} {h₀ : Heap} {L : Addr} {m : Str → Option Value} {env : Env} {elt : PySem.Expr} {x : Str} {scope : Scope} {cl : List (Str × Addr)} {s : Shared} {S : Ledger → Prop} {P : Nat → Value → Prop} {Fin : List Value → Ledger → Prop} {news : Ledger}
def ElI (h₀ : Heap) (L : Addr) (m : Str → Option Value) (s : Shared) (all : Ledger) (f : List Int) (y : Value) (s₂ : Shared) : Prop :=
  ∃ h' tk' t us k, s₂ = { s with heap := h', toks := tk' } ∧ Fr h₀ L h' m ∧ News h₀ L h' ((t, lstO us k) :: all) ∧ y = .ref t ∧ IntsAre us f ∧ ∀ e ∈ all, e.1 ≠ t
theorem comp_facs {n : Nat} (f : Nat → List Int) (hS : ∀ T, S (news ++ T))
    (turn : ∀ i v I oI C oC D m₂ ys T h tk (E' : Value → Shared → Prop), i < n → P i v → LCg.NsObj oC m₂ → m₂ x = some v → Fr h₀ L h m → News h₀ L h ((I, oI) :: (C, oC) :: (D, LCg.lst ys) :: (news ++ T)) → 
      wpAny (model prog w) A (eval elt (compEnvC scope cl C env)) (ElI h₀ L m { s with heap := h, toks := tk } ((I, oI) :: (C, oC) :: (D, LCg.lst ys) :: (news ++ T)) (f i)) E' { s with heap := h, toks := tk })
    (fin : ∀ T ys, (∀ e ∈ T, ∀ d ∈ news, d.1 ≠ e.1) → FacL T ys ((List.range n).map f) → Fin ys (news ++ T)) : LCg.CompRest prog w A h₀ L m env elt x scope cl s S P Fin n 0 [] news := by
  have key : ∀ (j i : Nat) (ys : List Value) (T : Ledger), i + j = n → (∀ e ∈ T, ∀ d ∈ news, d.1 ≠ e.1) → FacL T ys ((List.range i).map f) → LCg.CompRest prog w A h₀ L m env elt x scope cl s S P Fin j i ys (news ++ T) := by
    intro j
    induction j with
    | zero =>
      intro i ys T hi hT hy
      obtain rfl : i = n := by omega
      exact LCg.CompRest.zero (fin T ys hT hy)
    | succ j ih =>
      intro i ys T hi hT hy
      refine LCg.CompRest.succ ?_
      intro v I oI C oC D m₂ h tk E' hv hC hx F N off ne
      refine wpAny_mono (turn i v I oI C oC D m₂ ys T h tk E' (by omega) hv hC hx F N) (fun y s₂ hq => ?_) fun _ _ e => e
      obtain ⟨h', tk', t, us, k, rfl, F', N', rfl, ho, hap⟩ := hq
      refine ⟨h', tk', news ++ (T ++ [(t, lstO us k)]), rfl, F', fun p hp => N' p ?_, LCg.Off3.of fun p hp => ?_, hS _, ?_⟩
      · rw [← List.append_assoc] at hp
        simp only [List.mem_cons, List.mem_append, List.not_mem_nil, or_false] at hp ⊢
        rcases hp with hp | hp | hp | hp | hp <;> first | walk_at "my or" | simp [hp]
      · rw [← List.append_assoc] at hp
        rcases List.mem_append.mp hp with hp | hp
        · exact off.mem p hp
        · rw [List.mem_singleton.mp hp]
          exact ⟨(hap _ (.head _)).symm, (hap _ (.tail _ (.head _))).symm, (hap _ (.tail _ (.tail _ (.head _)))).symm⟩
      · refine ih (i + 1) (ys ++ [.ref t]) (T ++ [(t, lstO us k)]) (by omega) (fun e he d hd => ?_) ?_
        · rcases List.mem_append.mp he with he | he
          · exact hT e he d hd
          · rw [List.mem_singleton.mp he]
            exact hap d (.tail _ (.tail _ (.tail _ (List.mem_append_left _ hd))))
        · rw [List.range_succ, List.map_append]
          exact (hy.mono fun _ h => List.mem_append_left _ h).append ⟨⟨t, k, us, rfl, List.mem_append_right _ (.head _), ho⟩, trivial⟩
  have := key n 0 [] [] (by omega) (fun _ h => nomatch h) trivial
  rw [List.append_nil] at this
  exact this
end
theorem box_mem {DB DS : Addr} {M : Ledger} (hB : Box DB DS M) {P : Addr → Prop} (h : ∀ d ∈ M, P d.1) : P DB ∧ P DS := by
  obtain ⟨nB, nS, k, u, vs, ns, rfl, _, _⟩ := hB
  exact ⟨h _ (.head _), h _ (.tail _ (.head _))⟩
theorem fac_quad {DB DS : Addr} {g h : Heap} {L t lf lr l1 l2 l3 : Addr} {m : Str → Option Value} {s : Shared} {tk : Nat} {a b : Int} {B : Ledger} {ta u1 u2 u3 u4 u5 : Tok} {o3 : Obj} (F : Fr g L h m) (hB : Box DB DS B) (a0 : 0 ≤ a) (a1 : a < 3) (b0 : 0 ≤ b) (b1 : b < 3)
    (N : News g L h ((t, tupO #[.ref lf, .ref lr] 0) :: (lr, lstO [.int (a - 3) ta] 0) :: (lf, lstO [.ref l2, .ref l1] 0) :: (l1, lstO [.int (1 + b) u1, .int 0 u2, .int 1 u3] 0) :: (l2, lstO [.int (0 - (a - 3)) u4, .int 1 u5] 0) :: (l3, o3) :: B))
    (q1 : l3 < l2 ∧ AllLt l2 B) (q2 : l2 < l1 ∧ l3 < l1 ∧ AllLt l1 B) (q3 : l1 < lf ∧ l2 < lf ∧ l3 < lf ∧ AllLt lf B) (q4 : ∀ p ∈ ((lf, lstO [.ref l2, .ref l1] 0) :: (l1, lstO [.int (1 + b) u1, .int 0 u2, .int 1 u3] 0) :: (l2, lstO [.int (0 - (a - 3)) u4, .int 1 u5] 0) :: (l3, o3) :: B), p.1 < lr)
    (q5 : lr < t ∧ lf < t ∧ l1 < t ∧ l2 < t ∧ l3 < t ∧ AllLt t B) : RetM g s (FactorsR DB DS) (.ref t) { s with heap := h, toks := tk } := by
  refine RetM.of ((t, tupO #[.ref lf, .ref lr] 0) :: (lf, lstO [.ref l2, .ref l1] 0) :: (lr, lstO [.int (a - 3) ta] 0) :: ([(l2, lstO [.int (0 - (a - 3)) u4, .int 1 u5] 0), (l1, lstO [.int (1 + b) u1, .int 0 u2, .int 1 u3] 0)] ++ B)) F N (fun e he => ?_)
    ⟨t, 0, lf, 0, _, lr, 0, _, [(l2, lstO [.int (0 - (a - 3)) u4, .int 1 u5] 0), (l1, lstO [.int (1 + b) u1, .int 0 u2, .int 1 u3] 0)], B, [[0 - (a - 3), 1], [1 + b, 0, 1]], [a - 3], rfl, rfl, hB, ⟨⟨l2, 0, _, rfl, .head _, .cons _ _ (.cons _ _ .nil)⟩, ⟨l1, 0, _, rfl, .tail _ (.head _), .cons _ _ (.cons _ _ (.cons _ _ .nil))⟩, trivial⟩, .cons _ _ .nil, .quad a b a0 a1 b0 b1,
      box_lt hB q5.2.2.2.2.2, box_lt hB q3.2.2.2, ?_, ?_⟩
  · simp only [List.mem_cons, List.mem_append, List.not_mem_nil, or_false] at he ⊢
    rcases he with he | he | he | (he | he) | he <;> first | walk_at "my or" | simp [he]
  · have := box_mem hB (P := fun d => d < lr) fun d hd => q4 d (by simp [hd])
    exact ⟨Ne.symm (Nat.ne_of_lt this.1), Ne.symm (Nat.ne_of_lt this.2)⟩
  · intro e he
    rcases List.mem_cons.mp he with rfl | he
    · exact box_lt hB q1.2
    · rw [List.mem_singleton.mp he]
      exact box_lt hB q2.2.2
theorem Off1.mem {D : Addr} : ∀ {l : Ledger}, LCg.Off1 D l → ∀ p ∈ l, p.1 ≠ D
  | [], _, _, h => nomatch h
  | _ :: _, x, p, h => by
    rcases List.mem_cons.mp h with rfl | h
    · exact x.1
    · exact Off1.mem x.2 p h
theorem fac_comp {DB DS : Addr} {g h : Heap} {L t lf lr l1 : Addr} {m : Str → Option Value} {s : Shared} {tk : Nat} {B T : Ledger} {o1 : Obj} {ys vr : List Value} {facs : List (List Int)} {roots : List Int} (F : Fr g L h m) (hB : Box DB DS B) (hi : IntsAre vr roots) (hF : FacL T ys facs) (hS : Shape facs roots)
    (N : News g L h ((t, tupO #[.ref lf, .ref lr] 0) :: (lf, LCg.lst ys) :: (lr, lstO vr 0) :: (l1, o1) :: (B ++ T)))
    (hT : ∀ e ∈ T, ∀ d ∈ ((lr, lstO vr 0) :: (l1, o1) :: B), d.1 ≠ e.1) (q1 : ∀ p ∈ ((l1, o1) :: B), p.1 < lr) (q2 : ∀ d ∈ B, d.1 ≠ lf) (q3 : ∀ d ∈ B, d.1 ≠ t) : RetM g s (FactorsR DB DS) (.ref t) { s with heap := h, toks := tk } := by
  refine RetM.of ((t, tupO #[.ref lf, .ref lr] 0) :: (lf, LCg.lst ys) :: (lr, lstO vr 0) :: (T ++ B)) F N (fun e he => ?_)
    ⟨t, 0, lf, ys.length, ys, lr, 0, vr, T, B, facs, roots, rfl, rfl, hB, hF, hi, hS, ?_, ?_, ?_, ?_⟩
  · simp only [List.mem_cons, List.mem_append] at he ⊢
    rcases he with he | he | he | he | he <;> first | walk_at "my or" | simp [he]
  · have := box_mem hB (P := fun d => d ≠ t) q3
    exact ⟨this.1.symm, this.2.symm⟩
  · have := box_mem hB (P := fun d => d ≠ lf) q2
    exact ⟨this.1.symm, this.2.symm⟩
  · have := box_mem hB (P := fun d => d < lr) fun d hd => q1 d (.tail _ hd)
    exact ⟨Ne.symm (Nat.ne_of_lt this.1), Ne.symm (Nat.ne_of_lt this.2)⟩
  · intro e he
    have := box_mem hB (P := fun d => d ≠ e.1) fun d hd => hT e he d (.tail _ (.tail _ hd))
    exact ⟨this.1.symm, this.2.symm⟩
theorem fac_three {g h : Heap} {L D l1 : Addr} {o1 : Obj} {B : Ledger} {a b c : Int} {ta tb tc : Tok} (N : News g L h ((D, lstO (List.take (Int.toNat 3) [.int (a - 3) ta, .int b tb, .int (3 + c) tc]) 0) :: (l1, o1) :: B))
    (a0 : 0 ≤ a) (a1 : a < 3) (b0 : 0 ≤ b) (b1 : b < 3) (c0 : 0 ≤ c) (c1 : c < 2) : ∃ D' vr roots, D' = D ∧ News g L h ((D', lstO vr 0) :: (l1, o1) :: B) ∧ IntsAre vr roots ∧ roots.length ≤ 3 ∧ Shape (roots.map fun r => [0 - r, 1]) roots :=
  ⟨D, _, [a - 3, b, 3 + c], rfl, N, .cons _ _ (.cons _ _ (.cons _ _ .nil)), by simp, .three a b c a0 a1 b0 b1 c0 c1⟩
theorem fac_two {g h : Heap} {L D l1 : Addr} {o1 : Obj} {B : Ledger} {a b c : Int} {ta tb tc : Tok} (N : News g L h ((D, lstO (List.take (Int.toNat 2) [.int (a - 3) ta, .int b tb, .int (3 + c) tc]) 0) :: (l1, o1) :: B))
    (a0 : 0 ≤ a) (a1 : a < 3) (b0 : 0 ≤ b) (b1 : b < 3) (c0 : 0 ≤ c) (c1 : c < 2) : ∃ D' vr roots, D' = D ∧ News g L h ((D', lstO vr 0) :: (l1, o1) :: B) ∧ IntsAre vr roots ∧ roots.length ≤ 3 ∧ Shape (roots.map fun r => [0 - r, 1]) roots :=
  ⟨D, _, [a - 3, b], rfl, N, .cons _ _ (.cons _ _ .nil), by simp, .two a b a0 a1 b0 b1⟩
def LawBody (w : World) (qual : Str) (scope : Scope) (body : List Stmt) : Prop :=
  ∀ (dp un : Nat) (fr : Option (List Env)) (gd : Option (List Code)) (f : Addr) (cdv : Value) (s : Shared) (mean : ExcName → Option Value) (mg mb : Str → Option Value) (L : Addr) (h₁ : Heap) (tk : Nat) (cells : Ledger) (a : Addr) (vs : List Value) (ns : List Int),
    Rm { handled := none, depth := dp, frames := fr, guards := gd, units := un } 20 → (hd.heap_1 w.params).In s.heap → Top hv (looseW hv []) mean mg mb s.heap → s.heap.IsList a vs.toArray → IntsAre vs ns → ns.length ≤ 63 →
    Fr s.heap L h₁ (bindL (envOfC qual scope L f cdv).kindOf [(Str.ofString "script", .ref a)] fun _ => none) → News s.heap L h₁ cells →
    CellsAre (bindC (envOfC qual scope L f cdv).kindOf [(Str.ofString "script", .ref a)] fun _ => none) (cellsFrom (L + 1) scope.names []) cells →
    wpAny (model PySem.Challenge.rw_sa0081_01.row.prog w) (Around.deeper { handled := none, depth := dp, frames := fr, guards := gd, units := un } (envOfC qual scope L f cdv)) (execs body (envOfC qual scope L f cdv))
      (fun fl s' => Ret s (fun v _ => v = .bool true) (match fl with | .ret v => v | _ => .none) s') NoE { s with heap := h₁, toks := tk }
theorem LawBody.of {w : World} {f : Addr} {name qual : Str} {params : Arguments} {body : List Stmt} {scope : Scope} {dV kV doc pm cdv ct oc : Value} {an od : Option Addr} {osl : Array (Option Value)} 
    (ho : (hd.heap_1 w.params).lookup f = some ⟨oc, od, .func (fnOf name qual params body scope dV kV doc pm an cdv ct), osl⟩) (h : LawBody w qual scope body) :
    ∃ name qual params body scope dV kV doc pm cdv ct oc an od osl, (hd.heap_1 w.params).lookup f = some ⟨oc, od, .func (fnOf name qual params body scope dV kV doc pm an cdv ct), osl⟩ ∧ LawBody w qual scope body :=
  ⟨name, qual, params, body, scope, dV, kV, doc, pm, cdv, ct, oc, an, od, osl, ho, h⟩
section
variable {prog : Program} {w : World} {A : Around} {E : Value → Shared → Prop} {h₀ : Heap} {L l : Addr} {m : Str → Option Value} {news : Ledger} {vs : List Value} {k : Int} {t : Tok}
theorem slice_I' {H : Heap} {g : _} {dr : _} {tk : Nat} {os : _} {value slice : PySem.Expr} {Q : Value → Shared → Prop} (F : Fr h₀ L H m) (N : News h₀ L H news) (hl : h₀.IsList l vs.toArray) (h0 : 0 ≤ k) (hz : vs.length ≤ 16384)
    (h : ∀ D h', Fr h₀ L h' m → News h₀ L h' ((D, lstO (vs.take k.toNat) 0) :: news) → (∀ p ∈ news, p.1 < D) → Q (.ref D) { heap := h', gens := g, drawn := dr, toks := tk, os := os })
    (hs : subscripted slice false (.ref l) (.ref H.objs.size) = operate [.ref H.objs.size, .ref l] (getItem (.ref l) (.ref H.objs.size)) := by with_unfolding_all rfl)
    (ht : ∀ r, letTemporaryGo value (.ref l) r = pure () := by intro _; with_unfolding_all rfl) :
    wpAny (model prog w) A (subscriptTail value slice (.ref l) (.ref H.objs.size)) Q E { heap := H.push { cls := .type "slice", data := .fields #[.none, .int k t, .none] }, gens := g, drawn := dr, toks := tk, os := os } := by
  refine slice_list (s := { heap := H, gens := g, drawn := dr, toks := tk, os := os }) (hsz := by rw [List.size_toArray, sizeLine_eq]; omega) F N (hl.at fun o e => F.keep _ _ e) .none (.int k t) (fun h' F' N' => ?_) hs ht
  have e : slicePick vs.toArray none (some k) none = (vs.take k.toNat).toArray := by
    have ek : k = (k.toNat : Int) := by omega
    rw [ek, slicePick_upto']
    simp
    rw [show max k 0 = k by omega]
  rw [e] at N'
  exact h _ h' F' N' fun p hp => Nat.lt_succ_of_lt (Heap.lt_size (N p hp).1)
end
section
variable {prog : Program} {w : World} {A : Around} {h₀ : Heap} {L : Addr} {m : Str → Option Value} {env : Env} {elt : PySem.Expr} {x : Str} {scope : Scope} {cl : List (Str × Addr)} {s : Shared} {S : Ledger → Prop} {P : Nat → Value → Prop} {Fin : List Value → Ledger → Prop} {news : Ledger}
def ElJ (h₀ : Heap) (L : Addr) (m : Str → Option Value) (s : Shared) (I : Addr) (oI : Obj) (C : Addr) (oC : Obj) (D : Addr) (oD : Obj) (J : Value → Ledger → Prop) (y : Value) (s₂ : Shared) : Prop :=
  ∃ h' tk' nw', s₂ = { s with heap := h', toks := tk' } ∧ Fr h₀ L h' m ∧ News h₀ L h' ((I, oI) :: (C, oC) :: (D, oD) :: nw') ∧ LCg.Off3 I C D nw' ∧ J y nw'
theorem comp_J {n : Nat} (J : Nat → List Value → Ledger → Prop) (hS : ∀ i ys nw, J i ys nw → S nw)
    (turn : ∀ i v I oI C oC D m₂ ys nw h tk (E' : Value → Shared → Prop), i < n → P i v → J i ys nw → LCg.NsObj oC m₂ → m₂ x = some v → Fr h₀ L h m → News h₀ L h ((I, oI) :: (C, oC) :: (D, LCg.lst ys) :: nw) → LCg.Off3 I C D nw →
      wpAny (model prog w) A (eval elt (compEnvC scope cl C env)) (ElJ h₀ L m { s with heap := h, toks := tk } I oI C oC D (LCg.lst ys) (fun y nw' => J (i + 1) (ys ++ [y]) nw')) E' { s with heap := h, toks := tk })
    (h0 : J 0 [] news) (fin : ∀ ys nw, J n ys nw → Fin ys nw) : LCg.CompRest prog w A h₀ L m env elt x scope cl s S P Fin n 0 [] news := by
  have key : ∀ (j i : Nat) (ys : List Value) (nw : Ledger), i + j = n → J i ys nw → LCg.CompRest prog w A h₀ L m env elt x scope cl s S P Fin j i ys nw := by
    intro j
    induction j with
    | zero =>
      intro i ys nw hi hJ
      obtain rfl : i = n := by omega
      exact LCg.CompRest.zero (fin ys nw hJ)
    | succ j ih =>
      intro i ys nw hi hJ
      refine LCg.CompRest.succ ?_
      intro v I oI C oC D m₂ h tk E' hv hC hx F N off ne
      refine wpAny_mono (turn i v I oI C oC D m₂ ys nw h tk E' (by omega) hv hJ hC hx F N off) (fun y s₂ hq => ?_) fun _ _ e => e
      obtain ⟨h', tk', nw', rfl, F', N', off', hJ'⟩ := hq
      exact ⟨h', tk', nw', rfl, F', N', off', hS _ _ _ hJ', ih (i + 1) (ys ++ [y]) nw' (by omega) hJ'⟩
  exact key n 0 [] news (by omega) h0
end
theorem ints_snoc {vs : List Value} {ns : List Int} {x : Int} {t : Tok} (h : IntsAre vs ns) : IntsAre (vs ++ [.int x t]) (ns ++ [x]) := by
  induction h with
  | nil => exact .cons _ _ .nil
  | cons i t r ih => exact .cons _ _ ih
theorem Off3.left {I C D : Addr} {T U : Ledger} (h : LCg.Off3 I C D (T ++ U)) : LCg.Off3 I C D T := LCg.Off3.of fun p hp => h.mem p (List.mem_append_left _ hp)
theorem srcHead {h₀ : Heap} {a : Addr} {us : List Value} {n : Nat} {rest : Ledger} : LCg.SrcAt h₀ a us.toArray ((a, lstO us n) :: rest) := .inr ⟨_, .head _, rfl, n, rfl⟩
section
variable {prog : Program} {w : World} {A : Around} {E : Value → Shared → Prop} {s : Shared} {name : Str} {scope : Scope} {L a : Addr} {cd : Value} {h₀ : Heap} {m : Str → Option Value} {news : Ledger}
theorem cell_stop {env : Env} {x : Str} {v : Value} {Q : Unit → Shared → Prop} (_h : env.kindOf x = some .cell) (h : Stop (wpAny (model prog w) A (storeName env x v) Q E s)) : wpAny (model prog w) A (storeName env x v) Q E s := h.out
/-- a store into a cell; the ledger is said anew -/
theorem cell_R {x : Str} {c : Addr} {o : Obj} {v₀ : Option Value} {v : Value} {Q : Unit → Shared → Prop} (rest : Ledger) (F : Fr h₀ L s.heap m) (N : News h₀ L s.heap news)
    (hc : (cellsFrom (L + 1) scope.names []).lookup x = some c) (hd : o.data = .cell v₀) (hm : (c, o) ∈ news) (sub : ∀ e ∈ rest, e ∈ news) (hT : ∀ p ∈ rest, p.1 ≠ c)
    (h : ∀ h' o', Fr h₀ L h' m → News h₀ L h' ((c, o') :: rest) → o'.data = .cell (some v) → Q () { s with heap := h' })
    (hk : scope.kind = .function) (hl : (envOfC name scope L a cd).kindOf x = some .cell) :
    wpAny (model prog w) A (storeName (envOfC name scope L a cd) x v) Q E s := by
  have N' : News h₀ L s.heap ([] ++ (c, o) :: rest) := fun p hp => by
    rcases List.mem_cons.mp hp with rfl | hp
    · exact N _ hm
    · exact N _ (sub p hp)
  exact stCN F N' hc hd (fun _ h => nomatch h) hT h hk hl
end
theorem Box.keys {DB DS : Addr} {M : Ledger} (hB : Box DB DS M) : ∀ d ∈ M, d.1 = DB ∨ d.1 = DS := by
  obtain ⟨nB, nS, k, u, vs, ns, rfl, _, _⟩ := hB
  intro d hd
  rcases List.mem_cons.mp hd with rfl | hd
  · exact .inl rfl
  · rw [List.mem_singleton.mp hd]
    exact .inr rfl
theorem box_init {g h : Heap} {L l d a3 a2 a1 : Addr} {e2 : Addr × Obj} {oA oB oC : Obj} {t : Tok} {ys : List Value} {ks : List Int} (N : News g L h [(l, lstO [.ref d, .int 0 t] 0), (d, LCg.lst ys), e2, (a3, oA), (a2, oB), (a1, oC)]) (hy : IntsAre ys ks) (hk : ks.length ≤ 9)
    (o1 : e2.1 ≠ d ∧ a3 ≠ d ∧ a2 ≠ d ∧ a1 ≠ d) (l1 : d < l ∧ e2.1 < l ∧ a3 < l ∧ a2 < l ∧ a1 < l) :
    ∃ DB DS M, DB = l ∧ DS = d ∧ DB ≠ DS ∧ (DB ≠ a3 ∧ DB ≠ a2 ∧ DB ≠ a1) ∧ (DS ≠ a3 ∧ DS ≠ a2 ∧ DS ≠ a1) ∧ Box DB DS M ∧ News g L h ((a3, oA) :: (a2, oB) :: (a1, oC) :: M) :=
  ⟨l, d, boxM l d 0 ys.length 0 t ys, rfl, rfl, Nat.ne_of_gt l1.1, ⟨Nat.ne_of_gt l1.2.2.1, Nat.ne_of_gt l1.2.2.2.1, Nat.ne_of_gt l1.2.2.2.2⟩, ⟨o1.2.1.symm, o1.2.2.1.symm, o1.2.2.2.symm⟩,
    ⟨_, _, _, _, ys, ks, rfl, hy, by have := hy.length; omega⟩, fun p hp => by
    refine N p ?_
    simp only [boxM, List.mem_cons, List.not_mem_nil, or_false] at hp ⊢
    rcases hp with hp | hp | hp | hp | hp <;> first | walk_at "my or" | simp [hp]⟩
example (w : World) : (hd.heap_1 w.params).In (default : Heap) → PySem.Challenge.rw_sa0081_01.Holds → True := by (k_fill; exact fun _ _ => trivial)
local macro_rules | `(tactic| walk_at "my def") => `(tactic| ((case ho => k_is); (case hc => k_is); (case hb => exact rfl); (case hl => exact locs rfl); (case c4 => decide); (case c1 => exact rfl); (case c2 => exact rfl); (case c3 => exact rfl)))
local macro_rules | `(tactic| walk_at "my steps") => `(tactic| repeat' (first | (k_unfold; (try dsimp only)) | (walk1; (all_goals try dsimp only)) | (dsimp only; walk1)))
local macro_rules | `(tactic| walk_at "my keys") => `(tactic| first | exact List.forall_mem_nil _ | (refine' List.forall_mem_cons.mpr ⟨?ka, ?kb⟩; (case ka => exact rfl); (case kb => walk_at "my keys")))
local macro_rules | `(tactic| walk_at "my rm") => `(tactic| (first | assumption | exact Rm.le (by assumption) (by decide)))
local macro_rules | `(tactic| walk_at "my sp") => `(tactic| first | assumption | apply_assumption)
local macro_rules | `(tactic| walk_at "my fact") => `(tactic| first | assumption | exact RatAt.keeps (by assumption) (Fr.keep (by assumption)) | exact PolyAt.keeps (by assumption) (Fr.keep (by assumption)) | exact PolyNew.at (by assumption) | exact RatNew.at (by assumption) | exact R0D (Frag.In.keeps (by assumption) (Fr.keep (by assumption))) (by omega) | exact PolyAt.ofLed (by assumption) (Fr.keep (by assumption)) (by k_mem) (by assumption) (by intro e he; simp [he]) | exact RatL.at (by assumption) (Fr.keep (by assumption)) (by assumption) (by intro e he; simp [he]))
local macro_rules | `(tactic| walk_at "my pre") => `(tactic| first | exact True.intro | ((try dsimp only); first | walk_at "my fact" | (refine And.intro ?_ ?_ <;> walk_at "my fact")))
local macro_rules | `(tactic| walk_at "my args") => `(tactic| ((case cs => walk_at "my sp"); (case cr => walk_at "my rm"); (case cx => assumption); (case ct => assumption); (case cf => assumption); (case cn => assumption); (case cp => walk_at "my pre")))
local macro_rules | `(tactic| walk_at "call ref") => `(tactic| k_dflt (first | (exfalso; omega) | (k_dflt (refine' Sp.use2 ?cs ?cr ?cx ?ct ?cf ?cn ?cp ?_); walk_at "my args"; (intro _ h' tk' st st0 F' N' R'); (try ((obtain ⟨t', e'⟩ := R'); subst e')); k_sweep)))
local macro_rules | `(tactic| walk_at "binaryOp FloorDiv") => `(tactic| ((with_reducible show wpAny _ _ (binaryOp _ (Value.int _ _) (Value.int _ _)) _ _ _); k_dflt (refine' fdiv_K ?d1 ?d2 ?_); (case d1 => omega); (case d2 => omega)))
local macro_rules | `(tactic| walk_at "my res") => `(tactic| exact ⟨_, _, rfl, Fr.keep (by assumption), by first | assumption | exact RatNew.down (by assumption) (by assumption) | exact PolyNew.down (by assumption) (by assumption)⟩)
local macro_rules | `(tactic| walk_at "my lst") => `(tactic| first | assumption | exact lstB (by assumption) (by assumption) | exact lstN (by assumption) (by k_mem))
local macro_rules | `(tactic| walk_at "call builtin:len") => `(tactic| ((with_reducible show wpAny _ _ (call (Value.builtin "len") [Value.ref _]) _ _ _); k_dflt (refine' len_L ?k1 ?k2 ?_; (case k1 => walk_at "my lst"); (case k2 => walk_at "my om"))))
local macro_rules | `(tactic| walk_at "my om") => `(tactic| first | omega | ((try simp only [List.length_set, List.length_replicate, List.length_append, List.length_take, List.length_cons, List.length_nil]); omega))
local macro_rules | `(tactic| walk_at "my item") => `(tactic| k_dflt ((with_reducible show wpAny _ _ (subscriptTail _ _ (Value.ref _) (Value.int _ _)) _ _ _); k_dflt (first
  | (refine' item_L ?k1 ?k2 ?k3 ?k4 ?_ ?k5; (case k1 => walk_at "my lst"); (case k2 => walk_at "my om"); (case k3 => walk_at "my om"); (case k4 => walk_at "my om"); (case k5 => with_unfolding_all rfl))
  | (refine' itemN_L ?k1 ?k2 ?k3 ?k4 ?_ ?k5; (case k1 => walk_at "my lst"); (case k2 => walk_at "my om"); (case k3 => walk_at "my om"); (case k4 => walk_at "my om"); (case k5 => with_unfolding_all rfl))); (intro v' hv'; walk_at "my got")))
local macro_rules | `(tactic| walk_at "my slice") => `(tactic| k_dflt ((with_reducible show wpAny _ _ (subscriptTail _ _ (Value.ref _) (Value.ref _)) _ _ _); k_dflt (first
  | (refine' slice_L' ?f ?n ?k1 ?k2 ?k3 ?_ ?k5 ?k6; (case f => assumption); (case n => assumption); (case k1 => walk_at "my lst"); (case k2 => walk_at "my om"); (case k3 => walk_at "my om"); (case k5 => with_unfolding_all rfl); (case k6 => intro _; with_unfolding_all rfl))
  | (refine' sliceN_L' ?f ?n ?k1 ?k2 ?k3 ?_ ?k5 ?k6; (case f => assumption); (case n => assumption); (case k1 => walk_at "my lst"); (case k2 => walk_at "my om"); (case k3 => walk_at "my om"); (case k5 => with_unfolding_all rfl); (case k6 => intro _; with_unfolding_all rfl))); (intro D' h' F' N' l1; k_sweep)))
local macro_rules | `(tactic| walk_at "subscriptTail") => `(tactic| first | walk_at "my item" | walk_at "my slice")
local macro_rules | `(tactic| walk_at "subscriptTail Name UnaryOp ref int") => `(tactic| walk_at "my item")
local macro_rules | `(tactic| walk_at "subscriptTail Name BinOp ref int") => `(tactic| walk_at "my item")
local macro_rules | `(tactic| walk_at "subscriptTail Name Slice ref ref") => `(tactic| walk_at "my slice")
local macro_rules | `(tactic| walk_at "my got") => `(tactic| skip)
local macro_rules | `(tactic| walk_at "call type:list") => `(tactic| ((with_reducible show wpAny _ _ (call (Value.type _) [Value.ref _]) _ _ _); k_dflt (refine' copy_L ?f ?n ?k1 ?k2 ?_; (case f => assumption); (case n => assumption); (case k1 => walk_at "my lst"); (case k2 => walk_at "my om")); (intro D' c' h' F' N' l1; k_sweep)))
local macro_rules | `(tactic| walk_at "eval ListComp") => `(tactic| (k_here; k_dflt (refine LCg.ListComp_U (F₀ := by assumption) (by with_unfolding_all rfl) (by decide) (by rfl) (by decide) (by rfl) ?_)))
local macro_rules | `(tactic| walk_at "CompSrc") => `(tactic| refine Stop.out ?_)
local macro_rules | `(tactic| walk_at "binaryOp Mult ref int") => `(tactic| ((with_reducible show wpAny _ _ (binaryOp _ (Value.ref _) (Value.int _ _)) _ _ _); k_dflt (refine' mul_L ?f ?n ?k1 ?k2 ?k3 ?_; (case f => assumption); (case n => assumption); (case k1 => walk_at "my lst"); (case k2 => walk_at "my om"); (case k3 => walk_at "my om")); (intro D' h' F' N' l1; k_sweep)))
local macro_rules | `(tactic| walk_at "binaryOp Add ref ref") => `(tactic| ((with_reducible show wpAny _ _ (binaryOp _ (Value.ref _) (Value.ref _)) _ _ _); k_dflt (refine' add_L ?f ?n ?k1 ?k2 ?k3 ?_; (case f => assumption); (case n => assumption); (case k1 => walk_at "my lst"); (case k2 => walk_at "my lst"); (case k3 => walk_at "my om")); (intro D' h' F' N' l1; k_sweep)))
local macro_rules | `(tactic| walk_at "my defC") => `(tactic| ((case ho => k_is); (case hc => k_is); (case hb => exact rfl); (case hl => exact rfl); (case hn => decide +kernel); (case c1 => exact rfl); (case c2 => exact rfl); (case c3 => exact rfl)))
theorem rat_spec (w : World) (x y : Int) (tx ty : Tok) (q : Q2) (hq : ratO x y = some q) (hb : y.natAbs < 2 ^ 200) : Sp w 50 2 [.int x tx, .int y ty] (fun _ => True) (fun b v h => RatNew b h v q) := by
  have hy : y ≠ 0 := by
    intro h
    simp [ratO, h] at hq
  have hg1 := gcd_bound x y hy
  have hg2 := gcd_le_r x y hy
  have hS := gcd_spec w x y tx ty
  have hq' : q = (x.fdiv (if 0 < y then Int.gcd x y else 0 - Int.gcd x y), y.fdiv (if 0 < y then Int.gcd x y else 0 - Int.gcd x y)) := by
    simp only [ratO, if_neg hy, Option.some.injEq] at hq
    exact hq.symm
  subst hq'
  clear hq
  generalize (Int.gcd x y : Int) = g at hg1 hg2 hS ⊢
  k_dflt (refine' Sp.def [(Str.ofString "top", .int x tx), (Str.ofString "bottom", .int y ty)] ?ho ?hc ?hb ?hl ?c1 ?c2 ?c3 ?c4 ?_)
  walk_at "my def"
  intro dp un fr gd s mean mg mb L h₁ tk rm X T _ F N
  k_fold
  walk_at "my steps"
  · exact ⟨_, _, rfl, Fr.keep (by assumption), RatNew.ofNews (by assumption) (.head _) (by rw [if_pos (by assumption)])⟩
  · exact ⟨_, _, rfl, Fr.keep (by assumption), RatNew.ofNews (by assumption) (.head _) (by rw [if_neg (by assumption)])⟩
theorem radd_spec (w : World) (a b q : Q2) (hq : raddO a b = some q) (v u : Value) : Sp w 57 3 [v, u] (fun h => RatAt h v a ∧ RatAt h u b) (fun b v h => RatNew b h v q) := by
  have hab : okR a = true ∧ okR b = true := by
    simp only [raddO] at hq
    split at hq
    · simp_all
    · cases hq
  simp only [raddO, hab.1, hab.2, Bool.and_true, if_true] at hq
  have m1 := okI.mul (okR.fst hab.1) b.2
  have m2 := okI.mul (okR.fst hab.2) a.2
  have m3 := okI.mul (okR.snd hab.1) b.2
  have hb := mul_bound (okR.snd hab.1) (okR.snd hab.2)
  have hS := fun tx ty => rat_spec w _ _ tx ty q hq (by omega)
  k_dflt (refine' Sp.def [(Str.ofString "a", v), (Str.ofString "b", u)] ?ho ?hc ?hb ?hl ?c1 ?c2 ?c3 ?c4 ?_)
  walk_at "my def"
  intro dp un fr gd s mean mg mb L h₁ tk rm X T hP F N
  obtain ⟨⟨ra, ta1, ta2, rfl, ia⟩, ⟨rb, tb1, tb2, rfl, ib⟩⟩ := hP
  k_fold
  walk_at "my steps"
  all_goals walk_at "my res"
theorem rmul_spec (w : World) (a b q : Q2) (hq : rmulO a b = some q) (v u : Value) : Sp w 64 3 [v, u] (fun h => RatAt h v a ∧ RatAt h u b) (fun b v h => RatNew b h v q) := by
  have hab : okR a = true ∧ okR b = true := by
    simp only [rmulO] at hq
    split at hq
    · simp_all
    · cases hq
  simp only [rmulO, hab.1, hab.2, Bool.and_true, if_true] at hq
  have m1 := okI.mul (okR.fst hab.1) b.1
  have m2 := okI.mul (okR.snd hab.1) b.2
  have hb := mul_bound (okR.snd hab.1) (okR.snd hab.2)
  have hS := fun tx ty => rat_spec w _ _ tx ty q hq (by omega)
  k_dflt (refine' Sp.def [(Str.ofString "a", v), (Str.ofString "b", u)] ?ho ?hc ?hb ?hl ?c1 ?c2 ?c3 ?c4 ?_)
  walk_at "my def"
  intro dp un fr gd s mean mg mb L h₁ tk rm X T hP F N
  obtain ⟨⟨ra, ta1, ta2, rfl, ia⟩, ⟨rb, tb1, tb2, rfl, ib⟩⟩ := hP
  k_fold
  walk_at "my steps"
  all_goals walk_at "my res"
theorem rdiv_spec (w : World) (a b q : Q2) (hq : rdivO a b = some q) (v u : Value) : Sp w 71 3 [v, u] (fun h => RatAt h v a ∧ RatAt h u b) (fun b v h => RatNew b h v q) := by
  have hab : okR a = true ∧ okR b = true := by
    simp only [rdivO] at hq
    split at hq
    · simp_all
    · cases hq
  simp only [rdivO, hab.1, hab.2, Bool.and_true, if_true] at hq
  have m1 := okI.mul (okR.fst hab.1) b.2
  have m2 := okI.mul (okR.snd hab.1) b.1
  have hb := mul_bound (okR.snd hab.1) (okR.fst hab.2)
  have hS := fun tx ty => rat_spec w _ _ tx ty q hq (by omega)
  k_dflt (refine' Sp.def [(Str.ofString "a", v), (Str.ofString "b", u)] ?ho ?hc ?hb ?hl ?c1 ?c2 ?c3 ?c4 ?_)
  walk_at "my def"
  intro dp un fr gd s mean mg mb L h₁ tk rm X T hP F N
  obtain ⟨⟨ra, ta1, ta2, rfl, ia⟩, ⟨rb, tb1, tb2, rfl, ib⟩⟩ := hP
  k_fold
  walk_at "my steps"
  all_goals walk_at "my res"
theorem rneg_spec (w : World) (a : Q2) (v : Value) : Sp w 78 1 [v] (fun h => RatAt h v a) (fun b v h => RatNew b h v (rnegO a)) := by
  k_dflt (refine' Sp.def [(Str.ofString "a", v)] ?ho ?hc ?hb ?hl ?c1 ?c2 ?c3 ?c4 ?_)
  walk_at "my def"
  intro dp un fr gd s mean mg mb L h₁ tk rm X T hP F N
  obtain ⟨ra, ta1, ta2, rfl, ia⟩ := hP
  k_fold
  walk_at "my steps"
  exact ⟨_, _, rfl, Fr.keep (by assumption), RatNew.ofNews (by assumption) (.head _) rfl⟩
theorem rinv_spec (w : World) (a q : Q2) (hq : rinvO a = some q) (ha : okR a = true) (v : Value) : Sp w 85 3 [v] (fun h => RatAt h v a) (fun b v h => RatNew b h v q) := by
  have hS := fun tx ty => rat_spec w a.2 a.1 tx ty q hq (by have := okI.lt (okR.fst ha); omega)
  k_dflt (refine' Sp.def [(Str.ofString "a", v)] ?ho ?hc ?hb ?hl ?c1 ?c2 ?c3 ?c4 ?_)
  walk_at "my def"
  intro dp un fr gd s mean mg mb L h₁ tk rm X T hP F N
  obtain ⟨ra, ta1, ta2, rfl, ia⟩ := hP
  k_fold
  walk_at "my steps"
  all_goals walk_at "my res"
section
local macro_rules | `(tactic| walk_at "exec While") => `(tactic| refine Stop.out ?_)
local macro_rules | `(tactic| walk_at "my got") => `(tactic| ((rename _ = some _ => hv9); (obtain ⟨q9, t9, a9, b9, hq9, e9, i9⟩ := RatsAt.get' (by assumption) hv9); subst e9))
theorem qtrim_spec (w : World) (p : List Q2) (hp : p.length ≤ 1000) (v : Value) : Sp w 92 1 [v] (fun h => PolyAt h v p) (fun b v h => PolyNew b h v (qtrimP p)) := by
  k_dflt (refine' Sp.def [(Str.ofString "row", v)] ?ho ?hc ?hb ?hl ?c1 ?c2 ?c3 ?c4 ?_)
  walk_at "my def"
  intro dp un fr gd s mean mg mb L h₁ tk rm X T hP F N
  obtain ⟨l, n, vs, rfl, hl, hr⟩ := hP
  k_fold
  have hlen := hr.length
  have hL : s.heap.IsList l vs.toArray := ⟨_, hl, rfl, n, rfl⟩
  have hvs : vs.length ≤ 1000 := by omega
  walk_at "my steps"
  rename Fr _ _ _ _ => F'
  rename News _ _ _ _ => N'
  refine' Stop.mk (while_K (σ := Nat × Tok) (fun c => [(Str.ofString "row", .ref l), (Str.ofString "size", .int c.1 c.2)])
    (fun c _ => c.1 ≤ vs.length ∧ trimN p c.1 = trimN p p.length) (fun c => c.1) (vs.length, _) F' ?hk ?h0 ?turn)
  case hk => walk_at "my keys"
  case h0 => exact ⟨Nat.le_refl _, by rw [hlen]⟩
  case turn =>
    rintro ⟨k, tk1⟩ u h tk ⟨hk, ht⟩ F2
    have N2 : News s.heap L h [] := News.nil
    dsimp only at hk ht F2
    clear F' N'
    walk_at "my steps"
    · rename Fr _ _ _ _ => F3
      refine' ⟨(k - 1, _), _, _, _, rfl, F3, ?hk, ⟨by dsimp only; omega, ?hm⟩, by dsimp only; omega⟩
      case hk =>
        have e9 : ((k - 1 : Nat) : Int) = (k : Int) - 1 := by omega
        dsimp only
        rw [e9]
        walk_at "my keys"
      case hm =>
        rename _ = some _ => hv9
        rename p[_]? = some _ => hq9
        obtain ⟨j, rfl⟩ : ∃ j, k = j + 1 := ⟨k - 1, by omega⟩
        have e8 : ((((j + 1 : Nat) : Int) - 1).toNat) = j := by omega
        rw [e8] at hq9
        rw [← ht]
        show trimN p j = trimN p (j + 1)
        rw [trimN, if_pos]
        rw [hq9]
        show some _ = some _
        congr 1
    · rename Fr _ _ _ _ => F3
      rename News _ _ _ _ => N3
      rename p[_]? = some _ => hq9
      refine' ⟨_, _, rfl, F3.keep, PolyNew.ofNews N3 (.head _) ?_⟩
      have e : p.take k = qtrimP p := by
        unfold qtrimP
        rw [← ht]
        obtain ⟨j, rfl⟩ : ∃ j, k = j + 1 := ⟨k - 1, by omega⟩
        have e8 : ((((j + 1 : Nat) : Int) - 1).toNat) = j := by omega
        rw [e8] at hq9
        rw [trimN, if_neg]
        rw [hq9]
        intro hc
        have h0 := Option.some.inj hc
        exact absurd h0 (by assumption)
      rw [← e]
      exact (hr.keeps F3.keep).take k
    · rename Fr _ _ _ _ => F3
      rename News _ _ _ _ => N3
      refine' ⟨_, _, rfl, F3.keep, PolyNew.ofNews N3 (.head _) ?_⟩
      have e : p.take k = qtrimP p := by
        unfold qtrimP
        rw [← ht]
        obtain rfl : k = 0 := by omega
        rfl
      rw [← e]
      exact (hr.keeps F3.keep).take k
end
theorem qneg_spec (w : World) (p : List Q2) (hp : p.length ≤ 1000) (v : Value) : Sp w 102 2 [v] (fun h => PolyAt h v p) (fun b v h => PolyNew b h v (p.map rnegO)) := by
  k_dflt (refine' Sp.def [(Str.ofString "p", v)] ?ho ?hc ?hb ?hl ?c1 ?c2 ?c3 ?c4 ?_)
  walk_at "my def"
  intro dp un fr gd s mean mg mb L h₁ tk rm X T hP F N
  obtain ⟨l, n, vs, rfl, hl, hr⟩ := hP
  k_fold
  have hlen := hr.length
  have hvs : vs.length ≤ 1000 := by omega
  walk_at "my steps"
  rename Fr _ _ _ _ => F'
  rename News _ _ _ _ => N'
  refine' Stop.mk (LCg.CompSrc.base rfl F' N' (lst_is (n := n) hl) ?sz ?rest)
  case sz => simp [sizeLine_eq]; omega
  case rest =>
    intro g'
    refine comp_rats (fun i => rnegO (p.getD i default)) (fun T => .inl (lst_is hl)) ?turn ?fin
    case turn =>
      intro i v I oI C oC D m₂ ys T h tk E' hi hv hC hx F2 N2
      obtain ⟨q, t, tn, td, hq, rfl, it⟩ := RatsAt.get' hr (by simpa using hv)
      have hS := rneg_spec w q (.ref t)
      have hR : RatAt s.heap (.ref t) q := ⟨t, tn, td, rfl, it⟩
      have e9 : p.getD i default = q := by simp [List.getD, hq]
      rw [e9]
      walk_at "my steps"
      exact ⟨_, _, rfl, by assumption, by assumption, by assumption⟩
    case fin =>
      intro T ys hT hy
      walk_at "my steps"
      rename Fr _ _ _ _ => F5
      rename News _ _ _ _ => N5
      have e9 : vs.toArray.size = p.length := by simpa using hlen
      rw [e9, range_getD] at hy
      exact ⟨_, _, rfl, F5.keep, PolyNew.ofLed N5 F5.keep (.head _) hy fun e he => by first | walk_at "my mem" | simp [he]⟩
section
local macro_rules | `(tactic| walk_at "my got") => `(tactic| ((rename _ = some _ => hv9); rw [idx0] at hv9; have hR9 := RatsAt.getD' (d := (0, 1)) (by assumption) hv9))
theorem qadd_spec (w : World) (pa pb r : List Q2) (hq : qaddO pa pb = some r) (ha : pa.length ≤ 900) (hb : pb.length ≤ 900) (v u : Value) : Sp w 97 5 [v, u] (fun h => PolyAt h v pa ∧ PolyAt h u pb) (fun b v h => PolyNew b h v r) := by
  obtain ⟨r0, h0, rfl⟩ : ∃ r0, optMap (fun i => raddO (pa.getD i (0, 1)) (pb.getD i (0, 1))) (List.range (max pa.length pb.length)) = some r0 ∧ qtrimP r0 = r := by
    unfold qaddO at hq
    cases h : optMap (fun i => raddO (pa.getD i (0, 1)) (pb.getD i (0, 1))) (List.range (max pa.length pb.length)) with
    | none => rw [h] at hq; cases hq
    | some r0 => rw [h] at hq; exact ⟨r0, rfl, Option.some.inj hq⟩
  obtain ⟨hl0, hs0⟩ := optMap_spec h0
  rw [List.length_range] at hl0
  have hS0 := fun v => qtrim_spec w r0 (by omega) v
  k_dflt (refine' Sp.defC [(Str.ofString "a", v), (Str.ofString "b", u)] ?ho ?hc ?hb ?hl ?hn ?c1 ?c2 ?c3 ?_)
  case ho => k_is
  case hc => k_is
  case hb => exact rfl
  case hl => exact rfl
  case hn => decide +kernel
  case c1 => exact rfl
  case c2 => exact rfl
  case c3 => exact rfl
  intro dp un fr gd s mean mg mb L h₁ tk cells rm X T hP F N Y
  obtain ⟨⟨la, na, vsa, rfl, hla, hra⟩, ⟨lb, nb, vsb, rfl, hlb, hrb⟩⟩ := hP
  obtain ⟨o1, o2, rfl, d1, d2⟩ := CellsAre.two Y
  k_fold
  have d3 : o1.data = .cell (some (.ref lb)) := d1
  have d4 : o2.data = .cell (some (.ref la)) := d2
  clear Y d1 d2
  have hlena := hra.length
  have hlenb := hrb.length
  have hva : vsa.length ≤ 900 := by omega
  have hvb : vsb.length ≤ 900 := by omega
  walk_at "my steps"
  rename Fr _ _ _ _ => F5
  rename News _ _ _ _ => N5
  rename IsRange _ _ _ _ _ _ _ _ => hR
  have e9 : (if (vsb.length : Int) > vsa.length then (vsb.length : Int) else vsa.length) = ((max pa.length pb.length : Nat) : Int) := by split <;> omega
  rw [e9] at hR
  refine' Stop.mk (LCg.CompSrc.range (n := max pa.length pb.length) rfl F5 N5 hR (rangeN_small _ (by omega)) (rangeN_size _) (by rw [sizeLine_eq]; omega) ?rest)
  case rest =>
    intro g'
    refine comp_rats (fun i => r0.getD i default) (fun T => True.intro) ?turn ?fin
    case turn =>
      intro i v I oI C oC D m₂ ys T h tk E' hi hv hC hx F2 N2
      obtain ⟨t, rfl⟩ := hv
      obtain ⟨y, hy1, hy2⟩ := hs0 i i (by simp [hi])
      have e8 : r0.getD i default = y := by simp [List.getD, hy1]
      rw [e8]
      have hS := fun v u => radd_spec w _ _ y hy2 v u
      clear F5 N5
      walk_at "my steps"
      all_goals exact ⟨_, _, rfl, by assumption, by assumption, by assumption⟩
    case fin =>
      intro T ys hT hy
      rw [← hl0, range_getD_id] at hy
      clear F5 N5
      walk_at "my steps"
      all_goals walk_at "my res"
end
theorem qsub_spec (w : World) (pa pb r : List Q2) (hq : qsubO pa pb = some r) (ha : pa.length ≤ 900) (hb : pb.length ≤ 900) (v u : Value) : Sp w 109 6 [v, u] (fun h => PolyAt h v pa ∧ PolyAt h u pb) (fun b v h => PolyNew b h v r) := by
  have hS1 := qneg_spec w pb (by omega) u
  have hS2 := fun u' => qadd_spec w pa (pb.map rnegO) r hq ha (by simpa using hb) v u'
  k_dflt (refine' Sp.def [(Str.ofString "a", v), (Str.ofString "b", u)] ?ho ?hc ?hb ?hl ?c1 ?c2 ?c3 ?c4 ?_)
  walk_at "my def"
  intro dp un fr gd s mean mg mb L h₁ tk rm X T hP F N
  obtain ⟨hA, hB⟩ := hP
  k_fold
  walk_at "my steps"
  all_goals walk_at "my res"
theorem qscale_spec (w : World) (p r : List Q2) (q : Q2) (hq : qscaleO p q = some r) (ha : p.length ≤ 900) (v u : Value) : Sp w 114 4 [v, u] (fun h => PolyAt h v p ∧ RatAt h u q) (fun b v h => PolyNew b h v r) := by
  k_dflt (refine' Sp.defC [(Str.ofString "p", v), (Str.ofString "r", u)] ?ho ?hc ?hb ?hl ?hn ?c1 ?c2 ?c3 ?_)
  walk_at "my defC"
  intro dp un fr gd s mean mg mb L h₁ tk cells rm X T hP F N Y
  obtain ⟨⟨l, n, vs, rfl, hl, hr⟩, ⟨t, tn, td, rfl, it⟩⟩ := hP
  obtain ⟨o1, rfl, d1⟩ := CellsAre.one Y
  k_fold
  have d3 : o1.data = .cell (some (.ref t)) := d1
  clear Y d1
  have hlen := hr.length
  have hRq : RatAt s.heap (.ref t) q := ⟨t, tn, td, rfl, it⟩
  walk_at "my steps"
  · have h0 : ¬ q.1 = 0 := by assumption
    rw [qscaleO, if_neg h0] at hq
    obtain ⟨hl0, hs0⟩ := optMap_spec hq
    refine' Stop.mk (LCg.CompSrc.base rfl F N (lst_is (n := n) hl) (by simp [sizeLine_eq]; omega) ?rest)
    case rest =>
      intro g'
      refine comp_rats (fun i => r.getD i default) (fun T => .inl (lst_is hl)) ?turn ?fin
      case turn =>
        intro i v I oI C oC D m₂ ys T h tk E' hi hv hC hx F2 N2
        obtain ⟨x, t2, tn2, td2, hx2, rfl, it2⟩ := RatsAt.get' hr (by simpa using hv)
        obtain ⟨y, hy1, hy2⟩ := hs0 i x hx2
        have hR : RatAt s.heap (.ref t2) x := ⟨t2, tn2, td2, rfl, it2⟩
        have e9 : r.getD i default = y := by simp [List.getD, hy1]
        rw [e9]
        have hS := rmul_spec w x q y hy2 (.ref t2) (.ref t)
        clear F N
        walk_at "my steps"
        all_goals exact ⟨_, _, rfl, by assumption, by assumption, by assumption⟩
      case fin =>
        intro T ys hT hy
        have e8 : vs.toArray.size = r.length := by simp [hlen, hl0]
        rw [e8, range_getD_id] at hy
        clear F N
        walk_at "my steps"
        rename Fr _ _ _ _ => F5
        rename News _ _ _ _ => N5
        exact ⟨_, _, rfl, F5.keep, PolyNew.ofLed N5 F5.keep (.head _) hy fun e he => by first | walk_at "my mem" | simp [he]⟩
  · have h0 : q.1 = 0 := by assumption
    rw [qscaleO, if_pos h0] at hq
    cases hq
    exact ⟨_, _, rfl, Fr.keep (by assumption), PolyNew.ofNews (vs := []) (by assumption) (.head _) trivial⟩
theorem qraise_spec (w : World) (p : List Q2) (k : Nat) (ha : p.length ≤ 900) (hk : k ≤ 900) (v : Value) (tk : Tok) : Sp w 121 1 [v, .int k tk] (fun h => PolyAt h v p) (fun b v h => PolyNew b h v (qraiseP p k)) := by
  k_dflt (refine' Sp.def [(Str.ofString "p", v), (Str.ofString "many", .int k tk)] ?ho ?hc ?hb ?hl ?c1 ?c2 ?c3 ?c4 ?_)
  walk_at "my def"
  intro dp un fr gd s mean mg mb L h₁ tk rm X T hP F N
  obtain ⟨l, n, vs, rfl, hl, hr⟩ := hP
  k_fold
  have hlen := hr.length
  walk_at "my steps"
  · have hne : p ≠ [] := by
      rintro rfl
      simp at hlen
      subst hlen
      simp at *
    rename Fr _ _ _ _ => F5
    rename News _ _ _ _ => N5
    refine ⟨_, _, rfl, F5.keep, PolyNew.ofNews N5 (.head _) ?_⟩
    have e7 : qraiseP p k = List.replicate k (0, 1) ++ p := if_neg hne
    rw [e7]
    exact (RatsAt.repl (R0_at (X.keeps F5.keep)) k).append (hr.keeps F5.keep)
  · have he : p = [] := by
      apply List.eq_nil_of_length_eq_zero
      omega
    have e7 : qraiseP p k = [] := if_pos he
    refine ⟨_, _, rfl, Fr.keep (by assumption), ?_⟩
    rw [e7]
    exact PolyNew.ofNews (vs := []) (by assumption) (.head _) trivial
local macro_rules | `(tactic| walk_at "my sub") => `(tactic| (intro e he; first | (walk_at "my mem") | (rcases List.mem_append.mp he with he | he <;> walk_at "my mem") | (rcases List.mem_append.mp he with he | he; (rcases List.mem_append.mp he with he | he <;> walk_at "my mem"); (walk_at "my mem")) | exact absurd he List.not_mem_nil | (simp [he]; done)))
local macro_rules | `(tactic| walk_at "my fact") => `(tactic| first | assumption | exact RatObj.at (by assumption) (by assumption) (by k_mem) | exact RatAt.keeps (by assumption) (Fr.keep (by assumption)) | exact PolyAt.keeps (by assumption) (Fr.keep (by assumption)) | exact PolyAt.ofLed (by assumption) (Fr.keep (by assumption)) (by k_mem) (by assumption) (by walk_at "my sub") | exact PolyL.at (by assumption) (Fr.keep (by assumption)) (by assumption) (by walk_at "my sub") | exact RatL.at (by assumption) (Fr.keep (by assumption)) (by assumption) (by walk_at "my sub") | exact R0D (Frag.In.keeps (by assumption) (Fr.keep (by assumption))) (by omega))
local macro_rules | `(tactic| walk_at "call ref") => `(tactic| k_dflt (first | (k_dflt (refine' Sp.useR ?cs ?cr ?cx ?ct ?cf ?cn ?cp ?_); walk_at "my args"; (intro t' o' h' tk' ho' fr' F' N'); k_sweep) | (k_dflt (refine' Sp.useP ?cs ?cr ?cx ?ct ?cf ?cn ?cp ?_); walk_at "my args"; (intro l' n' vs' U' h' tk' hU' rU' fr' nl' ll' F' N'); (try dsimp only [List.cons_append, List.nil_append] at N'); k_sweep) | (k_dflt (refine' Sp.useD ?cs ?cr ?cx ?ct ?cf ?cn ?cp ?_); walk_at "my args"; (intro t' n' lq' nq' vq' lr' nr' vr' U' h' tk' hU' rq' rr' F' N'); (try dsimp only [List.cons_append, List.nil_append] at N'); k_sweep) | (k_dflt (refine' Sp.useT ?cs ?cr ?cx ?ct ?cf ?cn ?cp ?_); walk_at "my args"; (intro t' n' lq' nq' vq' lr' nr' vr' lz' nz' vz' U' h' tk' hU' rq' rr' rz' F' N'); (try dsimp only [List.cons_append, List.nil_append] at N'); k_sweep)))
local macro_rules | `(tactic| walk_at "exec For Name Call cons nil") => `(tactic| walk_at "my for")
local macro_rules | `(tactic| walk_at "exec For Tuple Call cons nil") => `(tactic| walk_at "my for")
local macro_rules | `(tactic| walk_at "exec For Name Name cons nil") => `(tactic| walk_at "my for")
local macro_rules | `(tactic| walk_at "exec For Tuple Name cons nil") => `(tactic| walk_at "my for")
local macro_rules | `(tactic| walk_at "exec For Name Call cons cons") => `(tactic| walk_at "my for")
local macro_rules | `(tactic| walk_at "exec For Tuple Call cons cons") => `(tactic| walk_at "my for")
local macro_rules | `(tactic| walk_at "exec For Name Call") => `(tactic| walk_at "my for")
local macro_rules | `(tactic| walk_at "exec For Name Name") => `(tactic| walk_at "my for")
local macro_rules | `(tactic| walk_at "exec For Tuple Call") => `(tactic| walk_at "my for")
local macro_rules | `(tactic| walk_at "exec For Tuple Name") => `(tactic| walk_at "my for")
local macro_rules | `(tactic| walk_at "exec For") => `(tactic| walk_at "my for")
local macro_rules | `(tactic| walk_at "my for") => `(tactic| (k_here; k_dflt (refine' For_turns (by assumption) ?_ ?hs ?hE; (case hs => (intro _; with_unfolding_all rfl)); (case hE => exact PassesOwn.never))))
local macro_rules | `(tactic| walk_at "exec While Compare") => `(tactic| refine Stop.out ?_)
local macro_rules | `(tactic| walk_at "exec While BoolOp") => `(tactic| refine Stop.out ?_)
local macro_rules | `(tactic| walk_at "exec While") => `(tactic| refine Stop.out ?_)
local macro_rules | `(tactic| walk_at "call type:reversed") => `(tactic| refine Stop.out ?_)
local macro_rules | `(tactic| walk_at "call type:enumerate") => `(tactic| refine Stop.out ?_)
local macro_rules | `(tactic| walk_at "setItem ref int ref") => `(tactic| refine Stop.out ?_)
local macro_rules | `(tactic| walk_at "setItem ref int int") => `(tactic| refine Stop.out ?_)
local macro_rules | `(tactic| walk_at "setItem ref int") => `(tactic| refine Stop.out ?_)
local macro_rules | `(tactic| walk_at "my om") => `(tactic| first | omega | ((try simp only [List.length_set, List.length_replicate, List.length_append, List.length_take, List.length_cons, List.length_nil]); omega) | (split <;> omega))
local macro_rules | `(tactic| walk_at "my il") => `(tactic| first | exact ⟨_, _, _, rfl, by walk_at "my lst", by assumption⟩ | exact ⟨_, _, [], rfl, by walk_at "my lst", .nil⟩)
local macro_rules | `(tactic| walk_at "my room") => `(tactic| exact Rm.cmp (by assumption))
local macro_rules | `(tactic| walk_at "compareOp NotEq ref ref") => `(tactic| ((with_reducible show wpAny _ _ (compareOp _ (Value.ref _) (Value.ref _)) _ _ _); k_dflt (refine' cmpNe_I ?a ?b ?u ?_; (case a => walk_at "my il"); (case b => walk_at "my il"); (case u => walk_at "my room")); (try simp only [reduceCtorEq, decide_true, decide_false, Bool.not_true, Bool.not_false])))
local macro_rules | `(tactic| walk_at "call builtin:list.pop") => `(tactic| refine Stop.out ?_)
def qatStep (r : Q2) (f x : Q2) : Option Q2 := match rmulO f r with
  | some y => raddO y x
  | none => none
def qatO (p : List Q2) (r : Q2) : Option Q2 := foldO (qatStep r) (0, 1) p.reverse
theorem qatStep_some {r f x z : Q2} (h : qatStep r f x = some z) : ∃ y, rmulO f r = some y ∧ raddO y x = some z := by
  unfold qatStep at h
  split at h
  · exact ⟨_, by assumption, h⟩
  · cases h
/-- new, or the text's own 0 -/
def RatG (b h : Heap) (v : Value) (q : Q2) : Prop := RatNew b h v q ∨ (v = .ref 42 ∧ q = (0, 1))
theorem qat_spec (w : World) (p : List Q2) (r q : Q2) (hq : qatO p r = some q) (ha : p.length ≤ 900) (v u : Value) : Sp w 149 4 [v, u] (fun h => PolyAt h v p ∧ RatAt h u r) (fun b v h => RatG b h v q) := by
  k_dflt (refine' Sp.def [(Str.ofString "p", v), (Str.ofString "r", u)] ?ho ?hc ?hb ?hl ?c1 ?c2 ?c3 ?c4 ?_)
  walk_at "my def"
  intro dp un fr gd s mean mg mb L h₁ tk rm X T hP F N
  obtain ⟨⟨l, n, vs, rfl, hl, hr⟩, ⟨t, tn, td, rfl, it⟩⟩ := hP
  k_fold
  have hlen := hr.length
  have hRr : RatAt s.heap (.ref t) r := ⟨t, tn, td, rfl, it⟩
  walk_at "my steps"
  rename Fr _ _ _ _ => F5
  rename News _ _ _ _ => N5
  refine' Stop.mk (iter_rev (σ := Value × Q2 × Ledger) rfl (fun c => [(Str.ofString "found", c.1), (Str.ofString "r", .ref t)]) (fun c => c.2.2)
    (fun i c => Tups c.2.2 ∧ ((c.1 = .ref 42 ∧ c.2.1 = (0, 1)) ∨ ∃ t o, c.1 = .ref t ∧ (t, o) ∈ c.2.2 ∧ RatObj o c.2.1) ∧ foldO (qatStep r) c.2.1 (p.reverse.drop i) = some q)
    (.ref 42, (0, 1), []) (fun i c hI e he => .inl (hI.1.itc e he)) (lst_is (lstB F5 hl)) (.inl ⟨_, hl⟩) (lst_ne_L F5 (lstB F5 hl)) F5 ?hk N5 ⟨Tups.nil, .inl ⟨rfl, rfl⟩, hq⟩ ?turn ?fin)
  case hk => walk_at "my keys"
  case turn =>
    rintro i v ⟨v1, q1, Tc⟩ u own h tk hi hv ⟨hT, h42, hfold⟩ ho F2 N2
    dsimp only at hT h42 hfold F2 N2
    clear F5 N5
    obtain ⟨x, t2, tn2, td2, hx, rfl, it2⟩ := RatsAt.get' hr hv
    have hRx : RatAt s.heap (.ref t2) x := ⟨t2, tn2, td2, rfl, it2⟩
    have hd : p.reverse.drop i = x :: p.reverse.drop (i + 1) := by
      have hlt : i < p.reverse.length := by simp; omega
      rw [List.drop_eq_getElem_cons hlt]
      congr 1
      have : p.reverse[i]? = some x := by
        rw [List.getElem?_reverse (by omega), ← hlen]
        exact hx
      exact Option.some.inj ((List.getElem?_eq_getElem hlt).symm.trans this)
    rw [hd] at hfold
    obtain ⟨b', hb1, hb2⟩ := foldO_cons hfold
    obtain ⟨y, hy1, hy2⟩ := qatStep_some hb1
    have hF : RatL s.heap Tc v1 q1 := by
      rcases h42 with ⟨rfl, rfl⟩ | ⟨t, o, rfl, hm, hr⟩
      · exact .inl (R0_at X)
      · exact hr.led hm
    have hS1 := rmul_spec w q1 r y hy1 v1 (.ref t)
    have hS2 := fun v' => radd_spec w y x b' hy2 v' (.ref t2)
    walk_at "my steps"
    rename Fr _ _ _ _ => F6
    rename News _ _ _ _ => N6
    rename RatObj _ b' => ho6
    refine' ⟨(.ref _, b', _ :: Tc), _, _, _, rfl, F6, ?hk, News.mono N6 ?hs, ?hT, .inr ⟨_, _, rfl, .head _, ho6⟩, hb2⟩
    case hk => walk_at "my keys"
    case hs =>
      intro e he
      simp at he ⊢
      rcases he with he | he | he <;> first | walk_at "my or" | simp [he]
    case hT =>
      intro e he
      rcases List.mem_cons.mp he with rfl | he
      · exact ho6.1
      · exact hT e he
  case fin =>
    rintro ⟨v1, q1, Tc⟩ u h tk ⟨hT, h42, hfold⟩ F2 N2
    dsimp only at hT h42 hfold F2 N2
    clear F5 N5
    have hd : p.reverse.drop vs.length = [] := by
      apply List.drop_eq_nil_of_le
      simp [hlen]
    rw [hd] at hfold
    cases hfold
    walk_at "my steps"
    refine ⟨_, _, rfl, F2.keep, ?_⟩
    rcases h42 with ⟨rfl, rfl⟩ | ⟨t, o, rfl, hm, hr⟩
    · exact .inr ⟨rfl, rfl⟩
    · exact .inl (hr.new N2 hm (N2 _ hm).2.2)
section
local macro_rules | `(tactic| walk_at "my got") => `(tactic| ((rename _ = some _ => hv9); rw [idx2] at hv9; have hR9 := RatsL.getD' (d := (0, 1)) (by assumption) hv9))
theorem qmul_spec (w : World) (pa pb r : List Q2) (hq : qmulO pa pb = some r) (ha : pa.length ≤ 900) (hb : pb.length ≤ 900) (v u : Value) : Sp w 128 4 [v, u] (fun h => PolyAt h v pa ∧ PolyAt h u pb) (fun b v h => PolyNew b h v r) := by
  k_dflt (refine' Sp.def [(Str.ofString "a", v), (Str.ofString "b", u)] ?ho ?hc ?hb ?hl ?c1 ?c2 ?c3 ?c4 ?_)
  walk_at "my def"
  intro dp un fr gd s mean mg mb L h₁ tk rm X T hP F N
  obtain ⟨⟨la, na, vsa, rfl, hla, hra⟩, ⟨lb, nb, vsb, rfl, hlb, hrb⟩⟩ := hP
  k_fold
  have hlena := hra.length
  have hlenb := hrb.length
  have hva : vsa.length ≤ 900 := by omega
  have hvb : vsb.length ≤ 900 := by omega
  walk_at "my steps"
  · have h0 : pa.length = 0 := by omega
    rw [qmulO, if_pos (.inl h0)] at hq
    cases hq
    exact ⟨_, _, rfl, Fr.keep (by assumption), PolyNew.ofNews (vs := []) (by assumption) (.head _) trivial⟩
  · have h0 : pb.length = 0 := by omega
    rw [qmulO, if_pos (.inr h0)] at hq
    cases hq
    exact ⟨_, _, rfl, Fr.keep (by assumption), PolyNew.ofNews (vs := []) (by assumption) (.head _) trivial⟩
  · rename Fr _ _ _ _ => F5
    rename News _ _ _ _ => N5
    rw [qmulO, if_neg (by omega)] at hq
    have eM : ((vsa.length : Int) + (vsb.length : Int) - 1).toNat = pa.length + pb.length - 1 := by omega
    rw [eM] at N5
    obtain ⟨D5, hD5, N6⟩ := News.head1 N5
    subst hD5
    clear N5
    refine' Stop.mk (iter_enum (σ := List Value × List Q2 × Ledger) rfl (fun c => [(Str.ofString "b", .ref lb), (Str.ofString "found", .ref D5)]) (fun c => (D5, lstO c.1 0) :: c.2.2)
      (fun i c => Tups c.2.2 ∧ RatsL s.heap c.2.2 c.1 c.2.1 ∧ c.1.length = pa.length + pb.length - 1 ∧ foldO (mulRow pb) c.2.1 ((enumL 0 pa).drop i) = some r)
      (List.replicate (pa.length + pb.length - 1) (.ref 42), List.replicate (pa.length + pb.length - 1) (0, 1), []) (fun i c hI e he => ?hok) (lst_is (lstB F5 hla)) (.inl ⟨_, hla⟩) (lst_ne_L F5 (lstB F5 hla)) F5 ?hk N6
      ⟨Tups.nil, RatsL.repl (.inl (R0_at X)) _, by simp, hq⟩ ?turn ?fin)
    case hok =>
      rcases List.mem_cons.mp he with rfl | he
      · exact .inl rfl
      · exact .inl (hI.1.itc e he)
    case hk => walk_at "my keys"
    case turn =>
      rintro i x TT tt ⟨v1, f1, Tc⟩ u own h tk hx itt ⟨hT, hR, hM, hfold⟩ ho F2 N2
      dsimp only at hT hR hM hfold F2 N2
      clear F5 N6
      obtain ⟨qx, t1, tn1, td1, hqx, rfl, it1⟩ := RatsAt.get' hra hx
      have hRx : RatAt s.heap (.ref t1) qx := ⟨t1, tn1, td1, rfl, it1⟩
      rw [enumL_drop hqx] at hfold
      obtain ⟨f2, hf1, hf2⟩ := foldO_cons hfold
      replace F2 : Fr s.heap L h _ := F2
      replace N2 : News s.heap L h ((D5, lstO v1 0) :: (Tc ++ own)) := N2
      walk_at "my steps"
      rename Fr _ _ _ _ => F7
      rename News _ _ _ _ => N7
      refine' Stop.mk (iter_enum (σ := List Value × List Q2 × Ledger) rfl (fun c => [(Str.ofString "b", .ref lb), (Str.ofString "found", .ref D5), (Str.ofString "one", .int i tt), (Str.ofString "left", .ref t1)]) (fun c => (D5, lstO c.1 0) :: (c.2.2 ++ own))
        (fun j c => Tups c.2.2 ∧ RatsL s.heap c.2.2 c.1 c.2.1 ∧ c.1.length = pa.length + pb.length - 1 ∧ foldO (fun f (jy : Nat × Q2) => mulStep i jy.1 qx jy.2 f) c.2.1 ((enumL 0 pb).drop j) = some f2)
        (v1, f1, Tc) (fun j c hI e he => ?hok2) (lst_is (lstB F7 hlb)) (.inl ⟨_, hlb⟩) (lst_ne_L F7 (lstB F7 hlb)) F7 ?hk2 N7
        ⟨hT, hR, hM, hf1⟩ ?turn2 ?fin2)
      case hok2 =>
        rcases List.mem_cons.mp he with rfl | he
        · exact .inl rfl
        · rcases List.mem_append.mp he with he | he
          · exact .inl (hI.1.itc e he)
          · exact .inr ⟨_, .tail _ (List.mem_append_right _ he), rfl⟩
      case hk2 => walk_at "my keys"
      case turn2 =>
        clear hT hR hM hf1 F7 N7
        rintro j x2 TT2 tt2 ⟨v2, f3, Tc2⟩ u2 own2 h2 tk2 hx2 itt2 ⟨hT, hR, hM, hfold2⟩ ho2 F2 N2
        dsimp only at hT hR hM hfold2 F2 N2
        obtain ⟨qy, t2, tn2, td2, hqy, rfl, it2⟩ := RatsAt.get' hrb hx2
        have hRy : RatAt s.heap (.ref t2) qy := ⟨t2, tn2, td2, rfl, it2⟩
        rw [enumL_drop hqy] at hfold2
        obtain ⟨f4, hf3, hf4⟩ := foldO_cons hfold2
        obtain ⟨z, sm, hz1, hz2, rfl⟩ := mulStep_some hf3
        have hS1 := rmul_spec w qx qy z hz1 (.ref t1) (.ref t2)
        have hS2 := fun v' v'' => radd_spec w _ z sm hz2 v' v''
        have hi1 : i < pa.length := by
          rcases Nat.lt_or_ge i pa.length with h' | h'
          · exact h'
          · rw [List.getElem?_eq_none h'] at hqx
            cases hqx
        have hj1 : j < pb.length := by
          rcases Nat.lt_or_ge j pb.length with h' | h'
          · exact h'
          · rw [List.getElem?_eq_none h'] at hqy
            cases hqy
        replace F2 : Fr s.heap L h2 _ := F2
        replace N2 : News s.heap L h2 ((D5, lstO v2 0) :: ((Tc2 ++ own) ++ own2)) := N2
        walk_at "my steps"
        rename Fr _ _ _ _ => F8
        rename News _ _ _ _ => N8
        rename RatObj _ sm => ho8
        refine' Stop.mk (set_S F8 N8 ho8 ?hTT (by omega) (by rw [hM]; omega) (by omega) ?cont)
        case hTT =>
          intro e he
          rcases List.mem_append.mp he with he' | he'
          · rcases List.mem_append.mp he' with he'' | he''
            · exact hT.ne N8 (.tail _ (.tail _ (.head _))) (fun e he => by first | walk_at "my mem" | simp [he]) e he''
            · exact Own.ne ho N8 (.tail _ (.tail _ (.head _))) (fun e he => by first | walk_at "my mem" | simp [he]) e he''
          · exact Own.ne ho2 N8 (.tail _ (.tail _ (.head _))) (fun e he => by first | walk_at "my mem" | simp [he]) e he'
        case cont =>
          intro h9 F9 N9
          clear F8 N8
          walk_at "my steps"
          rw [idx2] at N9
          refine' ⟨(v2.set (i + j) (.ref _), f3.set (i + j) sm, _ :: Tc2), _, _, _, rfl, F9, ?hk, N9, ?hT, ?hR, ?hM, hf4⟩
          case hk => walk_at "my keys"
          case hT =>
            intro e he
            rcases List.mem_cons.mp he with rfl | he
            · exact ho8.1
            · exact hT e he
          case hR => exact (hR.mono fun e he => .tail _ he).set _ (ho8.led (.head _))
          case hM => simpa using hM
      case fin2 =>
        rintro ⟨v2, f3, Tc2⟩ u2 h2 tk2 ⟨hT2, hR2, hM2, hfold2⟩ F8 N8
        dsimp only at hT2 hR2 hM2 hfold2 F8 N8
        rw [hlenb, enumL_end] at hfold2
        cases hfold2
        clear F7 N7
        replace F8 : Fr s.heap L h2 _ := F8
        replace N8 : News s.heap L h2 _ := N8
        walk_at "my steps"
        refine' ⟨(v2, f2, Tc2), _, _, _, rfl, F8, ?hk, N8, hT2, hR2, hM2, hf2⟩
        case hk => walk_at "my keys"
    case fin =>
      rintro ⟨v2, f3, Tc2⟩ u2 h2 tk2 ⟨hT2, hR2, hM2, hfold2⟩ F8 N8
      dsimp only at hT2 hR2 hM2 hfold2 F8 N8
      rw [hlena, enumL_end] at hfold2
      cases hfold2
      clear F5 N6
      replace F8 : Fr s.heap L h2 _ := F8
      replace N8 : News s.heap L h2 _ := N8
      walk_at "my steps"
      exact ⟨_, _, rfl, F8.keep, PolyNew.ofLed N8 F8.keep (.head _) hR2 fun e he => .tail _ he⟩
end
section
local macro_rules | `(tactic| walk_at "my dummy") => `(tactic| skip)
local macro_rules | `(tactic| walk_at "my got") => `(tactic| ((rename _ = some _ => hv9); first | have hR9 := getLast_at (by assumption) (by omega) hv9 | have hR9 := getLastB_at (by assumption) (by omega) hv9))
theorem qdivmod_spec (w : World) (pa pb : List Q2) (r : List Q2 × List Q2) (hq : qdivmodO pa pb = some r) (ha : pa.length ≤ 300) (hb : pb.length ≤ 300) (v u : Value) : Sp w 135 8 [v, u] (fun h => PolyAt h v pa ∧ PolyAt h u pb) (fun b v h => PairNew b h v r.1 r.2) := by
  obtain ⟨hb0, rest, found, hloop, rfl⟩ := qdivmodO_some hq
  k_dflt (refine' Sp.def [(Str.ofString "a", v), (Str.ofString "b", u)] ?ho ?hc ?hb ?hl ?c1 ?c2 ?c3 ?c4 ?_)
  walk_at "my def"
  intro dp un fr gd s mean mg mb L h₁ tk rm X T hP F N
  obtain ⟨⟨la, na, vsa, rfl, hla, hra⟩, ⟨lb, nb, vsb, rfl, hlb, hrb⟩⟩ := hP
  k_fold
  have hlena := hra.length
  have hlenb := hrb.length
  have hva : vsa.length ≤ 300 := by omega
  have hvb : vsb.length ≤ 300 := by omega
  have hvb0 : vsb.length ≠ 0 := by omega
  walk_at "my steps"
  rename Fr _ _ _ _ => F5
  rename News _ _ _ _ => N5
  rename ∀ (q : _ × _), q ∈ [_, _] → _ => l5
  have eM : (if (vsa.length : Int) - (vsb.length : Int) + 1 > 0 then (vsa.length : Int) - (vsb.length : Int) + 1 else 0).toNat = pa.length + 1 - pb.length := by split <;> omega
  rw [eM] at N5
  obtain ⟨DF, DR, hDF, hDR, hne, N6⟩ := News.pick2 N5 l5
  subst hDF hDR
  clear N5
  refine' Stop.mk (while_K (σ := DivS) (fun c => [(Str.ofString "b", .ref lb), (Str.ofString "rest", .ref c.lr), (Str.ofString "found", .ref DF)])
    (DivP s.heap L DF pb (rest, found)) (fun c => c.fuel) ⟨DR, _, vsa, pa, List.replicate (pa.length + 1 - pb.length) (.ref 42), List.replicate (pa.length + 1 - pb.length) (0, 1), [], pa.length + 1⟩ F5 ?hk ⟨N6, Tups.nil, RatsL.ofBase hra, RatsL.repl (.inl (R0_at X)) _, hne, ha, by simp; omega, hloop⟩ ?turn)
  case hk => walk_at "my keys"
  case turn =>
    clear F5 N6 hne
    rintro ⟨lr, nr, vr, rs, vf, fo, Tc, fuel⟩ u h tk ⟨N2, hT, hRr, hRf, hne, hlen, hflen, hrun⟩ F2
    dsimp only at N2 hT hRr hRf hne hlen hflen hrun F2
    have hvr := hRr.length
    have hvf := hRf.length
    by_cases hge : pb.length ≤ rs.length
    · obtain ⟨k', number, sc, lower, rfl, e1, e2, e3, e4, e5, e6, e7⟩ := divLoop_go hrun hge
      have hTb : RatsL s.heap [] (vsb.take (vsb.length - 1)) (pb.take (pb.length - 1)) := by rw [hlenb]; exact RatsL.ofBase (hrb.take _)
      have hTr : RatsL s.heap Tc (vr.take (vr.length - 1)) (rs.take (rs.length - 1)) := by rw [hvr]; exact hRr.take _
      have hS1 := fun v v' => rdiv_spec w _ _ number e1 v v'
      have hS2 := fun v v' => qscale_spec w _ sc number e2 (by simp; omega) v v'
      have ek : ((rs.length - pb.length : Nat) : Int) = (vr.length : Int) - (vsb.length : Int) := by omega
      have hS3 : ∀ v tk, Sp w 121 1 [v, .int ((vr.length : Int) - (vsb.length : Int)) tk] (fun h => PolyAt h v sc) (fun b v h => PolyNew b h v (qraiseP sc (rs.length - pb.length))) := by
        intro v tk
        rw [← ek]
        exact qraise_spec w sc _ (by omega) (by omega) v tk
      have hS4 := fun v v' => qsub_spec w _ _ lower e3 (by simp; omega) (by unfold qraiseP; split <;> simp <;> omega) v v'
      walk_at "my steps"
      rename Fr _ _ _ _ => F8
      rename News _ _ _ _ => N8
      rename RatObj _ number => ho8
      refine' Stop.mk (set_D F8 N8 ho8 hne hT (by omega) (by omega) (by omega) ?cont)
      intro h9 F9 N9
      clear F8 N8
      walk_at "my steps"
      rename Fr _ _ _ _ => F10
      rename News _ _ _ _ => N10
      rename RatsL _ _ _ lower => rU9
      rename Tups _ => hU9
      rename ∀ (e : _ × _), e ∈ _ → _ ≠ _ => nl9
      have ei : ((vr.length : Int) - (vsb.length : Int)).toNat = rs.length - pb.length := by omega
      rw [ei] at N10
      have N11 := div_pick N10
      refine' ⟨⟨_, _, _, lower, vf.set (rs.length - pb.length) (.ref _), fo.set (rs.length - pb.length) number, _, k'⟩, _, _, _, rfl, F10, ?hk, ⟨N11, ?hT, rU9.mono ?s1, (hRf.mono ?s2).set _ (ho8.led (.head _)), ?ne, e4, by simpa using hflen, e7⟩, Nat.lt_succ_self _⟩
      case hk => walk_at "my keys"
      case hT =>
        intro e he
        rcases List.mem_cons.mp he with rfl | he
        · exact ho8.1
        · exact hT.append hU9 e he
      case s1 => exact fun e he => .tail _ (List.mem_append_right _ he)
      case s2 => exact fun e he => .tail _ (List.mem_append_left _ he)
      case ne =>
        intro e
        exact nl9 (DF, _) (.tail _ (.tail _ (.tail _ (.tail _ (.head _))))) e.symm
    · have e1 := divLoop_stop hrun hge
      cases e1
      have hS5 := fun v => qtrim_spec w found (by omega) v
      walk_at "my steps"
      rename Fr _ _ _ _ => F10
      rename News _ _ _ _ => N10
      rename RatsL _ _ _ (qtrimP found) => rU9
      exact ⟨_, _, rfl, F10.keep, PairNew.ofNews N10 (.head _) (PolyNew.ofLed N10 F10.keep (.tail _ (.head _)) rU9 (by walk_at "my sub")) (PolyNew.ofLed N10 F10.keep (.tail _ (.tail _ (.tail _ (.head _)))) hRr (by walk_at "my sub"))⟩
end
section
local macro_rules | `(tactic| walk_at "my got") => `(tactic| ((rename _ = some _ => hv9); first | have hR9 := getLast_at (by assumption) (by omega) hv9 | have hR9 := getLastB_at (by assumption) (by omega) hv9))
theorem qextended_spec (w : World) (pa pb : List Q2) (r : Trip) (hq : qextendedO pa pb = some r) (ha : pa.length ≤ 300) (hb : pb.length ≤ 300) (v u : Value) : Sp w 142 10 [v, u] (fun h => PolyAt h v pa ∧ PolyAt h u pb) (fun b v h => TripNew b h v r) := by
  obtain ⟨e, hloop, hlens, hend⟩ := qextendedO_some hq
  k_dflt (refine' Sp.def [(Str.ofString "a", v), (Str.ofString "b", u)] ?ho ?hc ?hb ?hl ?c1 ?c2 ?c3 ?c4 ?_)
  walk_at "my def"
  intro dp un fr gd s mean mg mb L h₁ tk rm X T hP F N
  obtain ⟨⟨la, na, vsa, rfl, hla, hra⟩, ⟨lb, nb, vsb, rfl, hlb, hrb⟩⟩ := hP
  k_fold
  have hlena := hra.length
  have hlenb := hrb.length
  have hva : vsa.length ≤ 300 := by omega
  have hvb : vsb.length ≤ 300 := by omega
  walk_at "my steps"
  rename Fr _ _ _ _ => F5
  rename News _ _ _ _ => N5
  refine' Stop.mk (while_K (σ := ExtS) (fun c => [(Str.ofString "one", .ref c.t1), (Str.ofString "other", .ref c.t2)])
    (ExtP s.heap L e) (fun c => c.fuel) _ F5 ?hk (ext_init X N5 hra hrb ha hb hloop) ?turn)
  case hk => walk_at "my keys"
  case turn =>
    clear F5 N5
    rintro ⟨t1, n1, x1, nx1, vx1, y1, z1, t2, n2, x2, nx2, vx2, y2, z2, o, p, Tc, fuel⟩ u h tk ⟨N2, rx1, py1, pz1, rx2, py2, pz2, lo, lp, run⟩ F2
    dsimp only at N2 rx1 py1 pz1 rx2 py2 pz2 lo lp run F2
    have hv1 := rx1.length
    have hv2 := rx2.length
    by_cases hge : 0 < p.1.length
    · obtain ⟨k', st, rfl, e1, e2⟩ := extLoop_go run hge
      obtain ⟨q, rest, m1, m2, left, right, f1, f2, f3, f4, f5, rfl, f6, f7, f8, f9⟩ := extStep_some e1
      have hS1 := fun v v' => qdivmod_spec w o.1 p.1 (q, rest) f1 lo.1 lp.1 v v'
      have hS2 := fun v => qmul_spec w q p.2.1 m1 f2 (by omega) (by omega) v y2
      have hS3 := fun v => qsub_spec w o.2.1 m1 left f4 (by omega) (by omega) y1 v
      have hS4 := fun v => qmul_spec w q p.2.2 m2 f3 (by omega) (by omega) v z2
      have hS5 := fun v => qsub_spec w o.2.2 m2 right f5 (by omega) (by omega) z1 v
      walk_at "my steps"
      rename Fr _ _ _ _ => F10
      rename News _ _ _ _ => N10
      rename RatsL _ _ _ rest => rr9
      rename RatsL _ _ _ left => rl9
      rename RatsL _ _ _ right => rg9
      refine' ⟨_, _, _, _, rfl, F10, ?hk, ext_next N10 rr9 rl9 rg9 rx2 py2 pz2 lp ⟨f6.2, f8, f9⟩ e2, Nat.lt_succ_self _⟩
      case hk => walk_at "my keys"
    · have e1 := extLoop_stop run hge
      subst e1
      by_cases h0 : e.1.length = 0
      · walk_at "my steps"
        rename Fr _ _ _ _ => F10
        rename News _ _ _ _ => N10
        have er : r = ([], [], []) := by
          unfold extEnd at hend
          rw [if_pos h0] at hend
          exact (Option.some.inj hend).symm
        subst er
        exact ⟨_, _, rfl, F10.keep, TripNew.ofNews N10 (.head _) (PolyNew.ofNews (vs := []) N10 (.tail _ (.tail _ (.tail _ (.head _)))) trivial) (PolyNew.ofNews (vs := []) N10 (.tail _ (.tail _ (.head _))) trivial) (PolyNew.ofNews (vs := []) N10 (.tail _ (.head _)) trivial)⟩
      · obtain ⟨hok, f, x, y, z, f1, f2, f3, f4, rfl⟩ := extEnd_some hend h0
        have hS1 := fun v => rinv_spec w _ f f1 hok v
        have hS2 := fun v => qscale_spec w e.1 x f f2 (by omega) (.ref x1) v
        have hS3 := fun v => qscale_spec w e.2.1 y f f3 (by omega) y1 v
        have hS4 := fun v => qscale_spec w e.2.2 z f f4 (by omega) z1 v
        walk_at "my steps"
        try any_goals (exfalso; omega)
        rename Fr _ _ _ _ => F10
        rename News _ _ _ _ => N10
        rename RatsL _ _ _ x => rx9
        rename RatsL _ _ _ y => ry9
        rename RatsL _ _ _ z => rz9
        exact ⟨_, _, rfl, F10.keep, TripNew.ofNews N10 (.head _) (PolyNew.ofLed N10 F10.keep (.tail _ (.tail _ (.tail _ (.head _)))) rx9 (by walk_at "my sub")) (PolyNew.ofLed N10 F10.keep (.tail _ (.tail _ (.head _))) ry9 (by walk_at "my sub")) (PolyNew.ofLed N10 F10.keep (.tail _ (.head _)) rz9 (by walk_at "my sub"))⟩
end
section
local macro_rules | `(tactic| walk_at "my dummy") => `(tactic| skip)
local macro_rules | `(tactic| walk_at "my got") => `(tactic| ((rename _ = some _ => hv9); k_dflt (have e9 := Option.some.inj hv9); subst e9))
theorem take_spec (w : World) (DB DS : Addr) (hne : DB ≠ DS) (M : Ledger) (hM : Box DB DS M) (many : Int) (h0 : 0 < many) (h1 : many ≤ 100) (tm : Tok) :
    SpM w 156 1 [.ref DB, .int many tm] M (fun v M' => ∃ x tx, v = .int x tx ∧ 0 ≤ x ∧ x < many ∧ Box DB DS M') := by
  obtain ⟨nB, nS, k, t, vs, ns, rfl, hi, hlen⟩ := hM
  k_dflt (refine' SpM.def [(Str.ofString "box", .ref DB), (Str.ofString "many", .int many tm)] ?ho ?hc ?hb ?hl ?c1 ?c2 ?c3 ?c4 ?_)
  walk_at "my def"
  intro dp un fr gd s mean mg mb g L h₁ tk rm X T F N
  k_fold
  have N' : News g L h₁ [(DB, lstO [.ref DS, .int k t] nB), (DS, lstO vs nS)] := N
  clear N
  walk_at "my steps"
  rename Fr _ _ _ _ => F5
  refine' Stop.mk (set_R [(DS, lstO vs nS)] F5 N' (.head _) (fun e he => .tail _ he) ?ap (by decide) (by simp) (by decide) ?cont)
  case ap =>
    intro e he
    rw [List.mem_singleton.mp he]
    exact hne.symm
  case cont =>
    intro h9 F9 N9
    clear F5 N'
    replace N9 : News g L h9 [(DB, lstO [.ref DS, .int (k + 1) (tk + 1 + 1)] nB), (DS, lstO vs nS)] := N9
    generalize tk + 1 + 1 = t9 at N9
    rcases hi with _ | ⟨i1, t1, hi⟩
    · have hi0 : IntsAre [] [] := .nil
      walk_at "my steps"
      rename Fr _ _ _ _ => F10
      rename News _ _ _ _ => N10
      refine RetM.of (boxM DB DS nB nS (k + 1) t9 []) F10 N10 (fun e he => ?_) ⟨_, _, rfl, Int.fmod_nonneg_of_pos _ h0, Int.fmod_lt_of_pos _ h0, nB, nS, _, _, _, _, rfl, hi0, by simp⟩
      simp only [boxM, List.mem_cons, List.not_mem_nil, or_false] at he
      rcases he with he | he <;> first | walk_at "my or" | simp [he]
    · have hi1 := IntsAre.cons i1 t1 hi
      walk_at "my steps"
      rename Fr _ _ _ _ => F10
      rename News _ _ _ _ => N10
      refine' Stop.mk (pop0_R [(DB, lstO [.ref DS, .int (k + 1) t9] nB)] F10 N10 (.tail _ (.tail _ (.head _))) (fun e he => by rw [List.mem_singleton.mp he]; exact .tail _ (.head _)) (fun e he => by rw [List.mem_singleton.mp he]; exact hne) (by omega) ?cont)
      intro h11 F11 N11
      clear F10 N10
      walk_at "my steps"
      rename Fr _ _ _ _ => F12
      rename News _ _ _ _ => N12
      refine RetM.of (boxM DB DS nB (nS + 1) (k + 1) t9 _) F12 N12 (fun e he => ?_) ⟨_, _, rfl, Int.fmod_nonneg_of_pos _ h0, Int.fmod_lt_of_pos _ h0, nB, nS + 1, _, _, _, _, rfl, hi, by simp at hlen; omega⟩
      simp only [boxM, List.mem_cons, List.not_mem_nil, or_false] at he
      rcases he with he | he <;> first | walk_at "my or" | simp [he]
end
section
local macro_rules | `(tactic| walk_at "my dummy") => `(tactic| skip)
local macro_rules | `(tactic| walk_at "my got") => `(tactic| ((rename _ = some _ => hv9); k_dflt (have e9 := last_concat (by (try simp only [List.length_append, List.length_cons, List.length_nil]); omega) hv9); subst e9))
local macro_rules | `(tactic| walk_at "compareOp NotEq ref ref") => `(tactic| ((with_reducible show wpAny _ _ (compareOp _ (Value.ref _) (Value.ref _)) _ _ _); k_dflt (refine' cmpNe_I ?a ?b ?u ?_; (case a => walk_at "my il"); (case b => walk_at "my il"); (case u => walk_at "my room")); (try simp only [List.append_eq_nil_iff, and_false, reduceCtorEq, decide_true, decide_false, Bool.not_true, Bool.not_false])))
structure RowS where
  l : Addr
  n : Nat
  vs : List Value
  ns : List Int
theorem row_spec (w : World) (ns : List Int) (hlen : ns.length ≤ 300) (v : Value) : Sp w 161 1 [v] (fun h => IntL h v ns) (fun b v h => PolyNew b h v (rowP ns)) := by
  k_dflt (refine' Sp.def [(Str.ofString "numbers", v)] ?ho ?hc ?hb ?hl ?c1 ?c2 ?c3 ?c4 ?_)
  walk_at "my def"
  intro dp un fr gd s mean mg mb L h₁ tk rm X T hP F N
  obtain ⟨l, n, vs, rfl, hl, hi⟩ := hP
  k_fold
  have hvl := hi.length
  walk_at "my steps"
  refine' Stop.mk (while_X (σ := RowS) (fun c => [(Str.ofString "numbers", .ref c.l)])
    (fun c h => (s.heap.get? c.l = some (lstO c.vs c.n) ∨ News s.heap L h [(c.l, lstO c.vs c.n)]) ∧ IntsAre c.vs c.ns ∧ c.vs.length ≤ 300 ∧ itrim c.ns = itrim ns) (fun c => c.ns.length) (fun c => c.ns = itrim ns) ⟨l, n, vs, ns⟩ F ?hk ⟨.inl hl, hi, by dsimp only; omega, rfl⟩ ?turn ?fin)
  case hk => walk_at "my keys"
  case turn =>
    clear F N
    rintro ⟨l2, n2, vs2, ns2⟩ u h tk ⟨hN, hi2, hlen2, htr⟩ F2
    dsimp only at hN hi2 hlen2 htr F2
    have N0 : News s.heap L h [] := News.nil
    rcases List.eq_nil_or_concat ns2 with rfl | ⟨ms, x, hcc⟩
    · cases hi2
      have hi0 : IntsAre [] [] := .nil
      rcases hN with hl2 | N2
      · walk_at "my steps"
        rename Fr _ _ _ _ => F5
        rename News _ _ _ _ => N5
        refine' ⟨⟨l2, n2, [], []⟩, _, _, _, rfl, F5, ?hk, ⟨.inl hl2, hi0, hlen2, htr⟩, by rw [← htr]; rfl⟩
        case hk => walk_at "my keys"
      · clear N0
        walk_at "my steps"
        rename Fr _ _ _ _ => F5
        rename News _ _ _ _ => N5
        refine' ⟨⟨l2, n2, [], []⟩, _, _, _, rfl, F5, ?hk, ⟨.inr (News.mono N5 fun e he => .tail _ he), hi0, hlen2, htr⟩, by rw [← htr]; rfl⟩
        case hk => walk_at "my keys"
    · rw [List.concat_eq_append] at hcc
      subst hcc
      obtain ⟨ws, t, rfl, hw⟩ := ints_concat hi2
      rcases hN with hl2 | N2
      · walk_at "my steps"
        · rename Fr _ _ _ _ => F5
          rename News _ _ _ _ => N5
          rename x = 0 => hx0
          subst hx0
          refine' ⟨⟨_, 0, _, ms⟩, _, _, _, rfl, F5, ?hk, ⟨.inr (News.mono N5 fun e he => ?sub), hw, by simp at hlen2; dsimp only; omega, by rw [← htr, itrim_zero]⟩, by simp⟩
          case hk => walk_at "my keys"
          case sub =>
            have e9 : (ws ++ [Value.int 0 t]).take ((ws ++ [Value.int 0 t]).length - 1) = ws := by simp
            rw [e9]
            rw [List.mem_singleton.mp he]
            exact .head _
        · rename Fr _ _ _ _ => F5
          rename News _ _ _ _ => N5
          rename x ≠ 0 => hx0
          refine' ⟨⟨l2, n2, ws ++ [.int x t], ms ++ [x]⟩, _, _, _, rfl, F5, ?hk, ⟨.inl hl2, hi2, hlen2, htr⟩, by rw [← htr, itrim_ne ms hx0]⟩
          case hk => walk_at "my keys"
      · clear N0
        walk_at "my steps"
        · rename Fr _ _ _ _ => F5
          rename News _ _ _ _ => N5
          rename x = 0 => hx0
          subst hx0
          refine' ⟨⟨_, 0, _, ms⟩, _, _, _, rfl, F5, ?hk, ⟨.inr (News.mono N5 fun e he => ?sub), hw, by simp at hlen2; dsimp only; omega, by rw [← htr, itrim_zero]⟩, by simp⟩
          case hk => walk_at "my keys"
          case sub =>
            have e9 : (ws ++ [Value.int 0 t]).take ((ws ++ [Value.int 0 t]).length - 1) = ws := by simp
            rw [e9]
            rw [List.mem_singleton.mp he]
            exact .head _
        · rename Fr _ _ _ _ => F5
          rename News _ _ _ _ => N5
          rename x ≠ 0 => hx0
          refine' ⟨⟨l2, n2, ws ++ [.int x t], ms ++ [x]⟩, _, _, _, rfl, F5, ?hk, ⟨.inr (News.mono N5 fun e he => .tail _ he), hi2, hlen2, htr⟩, by rw [← htr, itrim_ne ms hx0]⟩
          case hk => walk_at "my keys"
  case fin =>
    clear F N
    rintro ⟨l2, n2, vs2, ns2⟩ u h tk ⟨hN, hi2, hlen2, htr⟩ hex F2
    dsimp only at hN hi2 hlen2 htr hex F2
    have hvl2 := hi2.length
    rcases hN with hl2 | N2
    · have N0 : News s.heap L h [] := News.nil
      walk_at "my steps"
      rename Fr _ _ _ _ => F5
      rename News _ _ _ _ => N5
      refine' Stop.mk (LCg.CompSrc.base rfl F5 N5 (lst_is (n := n2) hl2) (by simp [sizeLine_eq]; omega) ?rest)
      case rest =>
        intro g'
        refine comp_rats2 (fun i => (ns2.getD i 0, 1)) (fun T => .inl (lst_is hl2)) ?turn ?fin
        case turn =>
          intro i v I oI C oC D m₂ ys T h tk E' hii hv hC hx F6 N6
          obtain ⟨k, t, rfl, hk⟩ := IntsAre.at hi2 i v (by simpa using hv)
          have e8 : ns2.getD i 0 = k := by simp [List.getD, hk]
          rw [e8]
          clear F5 N5
          walk_at "my steps"
          rename Fr _ _ _ _ => F7
          rename News _ _ _ _ => N7
          rename I < _ ∧ _ => l7
          exact ⟨_, _, rfl, F7, .inl ⟨_, _, N7, rfl, RatObj.tup, AllLt.ne (l := (I, oI) :: (C, oC) :: (D, LCg.lst ys) :: _) l7⟩⟩
        case fin =>
          intro T ys hT hy
          clear F5 N5
          walk_at "my steps"
          rename Fr _ _ _ _ => F7
          rename News _ _ _ _ => N7
          have e9 : vs2.toArray.size = ns2.length := by simpa using hvl2
          rw [e9, range_getD (fun x : Int => ((x, 1) : Q2)) 0] at hy
          have e7 : rowP ns = ns2.map fun x => (x, 1) := by rw [rowP, ← hex]
          rw [← e7] at hy
          exact ⟨_, _, rfl, F7.keep, PolyNew.ofLed N7 F7.keep (.head _) hy fun e he => by first | walk_at "my mem" | simp [he]⟩
    · skip
      walk_at "my steps"
      rename Fr _ _ _ _ => F5
      rename News _ _ _ _ => N5
      refine' Stop.mk (LCg.CompSrc.ledger (k := n2) (its := vs2.toArray) rfl F5 N5 (.head _) (by simp [sizeLine_eq]; omega) ?rest)
      case rest =>
        intro g'
        refine comp_rats2 (fun i => (ns2.getD i 0, 1)) (fun T => .inr ⟨_, .head _, rfl, _, rfl⟩) ?turn ?fin
        case turn =>
          intro i v I oI C oC D m₂ ys T h tk E' hii hv hC hx F6 N6
          obtain ⟨k, t, rfl, hk⟩ := IntsAre.at hi2 i v (by simpa using hv)
          have e8 : ns2.getD i 0 = k := by simp [List.getD, hk]
          rw [e8]
          clear F5 N5
          walk_at "my steps"
          rename Fr _ _ _ _ => F7
          rename News _ _ _ _ => N7
          rename I < _ ∧ _ => l7
          exact ⟨_, _, rfl, F7, .inl ⟨_, _, N7, rfl, RatObj.tup, AllLt.ne (l := (I, oI) :: (C, oC) :: (D, LCg.lst ys) :: _) l7⟩⟩
        case fin =>
          intro T ys hT hy
          clear F5 N5
          walk_at "my steps"
          rename Fr _ _ _ _ => F7
          rename News _ _ _ _ => N7
          have e9 : vs2.toArray.size = ns2.length := by simpa using hvl2
          rw [e9, range_getD (fun x : Int => ((x, 1) : Q2)) 0] at hy
          have e7 : rowP ns = ns2.map fun x => (x, 1) := by rw [rowP, ← hex]
          rw [← e7] at hy
          exact ⟨_, _, rfl, F7.keep, PolyNew.ofLed N7 F7.keep (.head _) hy fun e he => by first | walk_at "my mem" | simp [he]⟩
end
section
theorem getD_int {l : List Int} {i : Nat} {k : Int} (h : l[i]? = some k) : k = l.getD i 0 := by simp [List.getD, h]
local macro_rules | `(tactic| walk_at "my got") => `(tactic| ((rename _ = some _ => hv9); rw [idx2] at hv9; (obtain ⟨k9, t9, e9, hk9⟩ := IntsAre.at (by assumption) _ _ hv9); subst e9; (have e8 := getD_int hk9); subst e8))
theorem times_spec (w : World) (pa pb : List Int) (ha : pa.length ≤ 300) (hb : pb.length ≤ 300) (hok : ∀ x ∈ pa, okI x = true) (v u : Value) : Sp w 168 1 [v, u] (fun h => IntL h v pa ∧ IntL h u pb) (fun b v h => IntNew b h v (timesP pa pb)) := by
  k_dflt (refine' Sp.def [(Str.ofString "one", v), (Str.ofString "other", u)] ?ho ?hc ?hb ?hl ?c1 ?c2 ?c3 ?c4 ?_)
  walk_at "my def"
  intro dp un fr gd s mean mg mb L h₁ tk rm X T hP F N
  obtain ⟨⟨la, na, vsa, rfl, hla, hra⟩, ⟨lb, nb, vsb, rfl, hlb, hrb⟩⟩ := hP
  k_fold
  have hlena := hra.length
  have hlenb := hrb.length
  have hva : vsa.length ≤ 300 := by omega
  have hvb : vsb.length ≤ 300 := by omega
  walk_at "my steps"
  rename Fr _ _ _ _ => F5
  rename News _ _ _ _ => N5
  have eM : ((vsa.length : Int) + (vsb.length : Int) - 1).toNat = pa.length + pb.length - 1 := by omega
  rw [eM] at N5
  obtain ⟨D5, hD5, N6⟩ := News.head1 N5
  subst hD5
  clear N5
  refine' Stop.mk (iter_enum (σ := List Value × List Int) rfl (fun c => [(Str.ofString "other", .ref lb), (Str.ofString "found", .ref D5)]) (fun c => [(D5, lstO c.1 0)])
    (fun i c => IntsAre c.1 c.2 ∧ c.1.length = pa.length + pb.length - 1 ∧ ((enumL 0 pa).drop i).foldl (tmRow pb) c.2 = timesP pa pb)
    (_, List.replicate (pa.length + pb.length - 1) 0) (fun i c hI e he => .inl (by rw [List.mem_singleton.mp he]; rfl)) (lst_is (lstB F5 hla)) (.inl ⟨_, hla⟩) (lst_ne_L F5 (lstB F5 hla)) F5 ?hk N6
    ⟨ints_repl _ _, by simp, rfl⟩ ?turn ?fin)
  case hk => walk_at "my keys"
  case turn =>
    rintro i x TT tt ⟨v1, f1⟩ u own h tk hx itt ⟨hR, hM, hfold⟩ ho F2 N2
    dsimp only at hR hM hfold F2 N2
    clear F5 N6
    obtain ⟨qx, t1, rfl, hqx⟩ := IntsAre.at hra i x hx
    rw [enumL_drop hqx] at hfold
    have hqok := hok qx (List.mem_of_getElem? hqx)
    replace F2 : Fr s.heap L h _ := F2
    replace N2 : News s.heap L h ((D5, lstO v1 0) :: own) := N2
    walk_at "my steps"
    rename Fr _ _ _ _ => F7
    rename News _ _ _ _ => N7
    refine' Stop.mk (iter_enum (σ := List Value × List Int) rfl (fun c => [(Str.ofString "other", .ref lb), (Str.ofString "found", .ref D5), (Str.ofString "at", .int i tt), (Str.ofString "left", .int qx t1)]) (fun c => (D5, lstO c.1 0) :: own)
      (fun j c => IntsAre c.1 c.2 ∧ c.1.length = pa.length + pb.length - 1 ∧ ((enumL 0 pb).drop j).foldl (tmStep i qx) c.2 = tmRow pb f1 (i, qx))
      (v1, f1) (fun j c hI e he => ?hok2) (lst_is (lstB F7 hlb)) (.inl ⟨_, hlb⟩) (lst_ne_L F7 (lstB F7 hlb)) F7 ?hk2 N7
      ⟨hR, hM, rfl⟩ ?turn2 ?fin2)
    case hok2 =>
      rcases List.mem_cons.mp he with rfl | he
      · exact .inl rfl
      · exact .inr ⟨_, .tail _ he, rfl⟩
    case hk2 => walk_at "my keys"
    case turn2 =>
      clear hR hM F7 N7
      rintro j x2 TT2 tt2 ⟨v2, f3⟩ u2 own2 h2 tk2 hx2 itt2 ⟨hR, hM, hfold2⟩ ho2 F2 N2
      dsimp only at hR hM hfold2 F2 N2
      obtain ⟨qy, t2, rfl, hqy⟩ := IntsAre.at hrb j x2 hx2
      rw [enumL_drop hqy] at hfold2
      have hmul := okI.mul hqok qy
      have hi1 : i < pa.length := by
        rcases Nat.lt_or_ge i pa.length with h' | h'
        · exact h'
        · rw [List.getElem?_eq_none h'] at hqx
          cases hqx
      have hj1 : j < pb.length := by
        rcases Nat.lt_or_ge j pb.length with h' | h'
        · exact h'
        · rw [List.getElem?_eq_none h'] at hqy
          cases hqy
      replace F2 : Fr s.heap L h2 _ := F2
      replace N2 : News s.heap L h2 ((D5, lstO v2 0) :: (own ++ own2)) := N2
      walk_at "my steps"
      rename Fr _ _ _ _ => F8
      rename News _ _ _ _ => N8
      refine' Stop.mk (set_R (own ++ own2) F8 N8 (.head _) (fun e he => .tail _ he) ?hTT (by omega) (by rw [hM]; omega) (by omega) ?cont)
      case hTT =>
        intro e he
        rcases List.mem_append.mp he with he' | he'
        · exact Own.ne ho N8 (.head _) (fun e he => by first | walk_at "my mem" | simp [he]) e he'
        · exact Own.ne ho2 N8 (.head _) (fun e he => by first | walk_at "my mem" | simp [he]) e he'
      case cont =>
        intro h9 F9 N9
        clear F8 N8
        walk_at "my steps"
        rw [idx2] at N9
        refine' ⟨(v2.set (i + j) (.int _ _), f3.set (i + j) _), _, _, _, rfl, F9, ?hk, N9, ints_set hR _, ?hM, hfold2⟩
        case hk => walk_at "my keys"
        case hM => simpa using hM
    case fin2 =>
      rintro ⟨v2, f3⟩ u2 h2 tk2 ⟨hR2, hM2, hfold2⟩ F8 N8
      dsimp only at hR2 hM2 hfold2 F8 N8
      rw [hlenb, enumL_end] at hfold2
      have hfold3 := foldl_end hfold2
      subst hfold3
      clear F7 N7
      replace F8 : Fr s.heap L h2 _ := F8
      replace N8 : News s.heap L h2 _ := N8
      walk_at "my steps"
      refine' ⟨(v2, _), _, _, _, rfl, F8, ?hk, N8, hR2, hM2, hfold⟩
      case hk => walk_at "my keys"
  case fin =>
    rintro ⟨v2, f3⟩ u2 h2 tk2 ⟨hR2, hM2, hfold2⟩ F8 N8
    dsimp only at hR2 hM2 hfold2 F8 N8
    rw [hlena, enumL_end] at hfold2
    have hfold3 := foldl_end hfold2
    subst hfold3
    clear F5 N6
    replace F8 : Fr s.heap L h2 _ := F8
    replace N8 : News s.heap L h2 _ := N8
    walk_at "my steps"
    exact ⟨_, _, rfl, F8.keep, IntNew.ofNews N8 (.head _) hR2⟩
end
section
theorem take_use {w : World} {DB DS : Addr} {M : Ledger} {many : Int} {tm : Tok} {n : Nat} {A : Around} {s : Shared} {mean : ExcName → Option Value} {mg mb : Str → Option Value} {h₀ : Heap} {L : Addr} {m : Str → Option Value} {env : Env} {Q E : Value → Shared → Prop}
    (hne : DB ≠ DS) (h0 : 0 < many) (h1 : many ≤ 100) (r : Rm A (n + 2)) (X : (hd.heap_1 w.params).In h₀) (T : Top hv (looseW hv []) mean mg mb h₀) (F : Fr h₀ L s.heap m) (N : News h₀ L s.heap M) (hB : Box DB DS M)
    (k : ∀ x tx M' h' tk', 0 ≤ x → x < many → Box DB DS M' → Fr h₀ L h' m → News h₀ L h' M' → Q (.int x tx) { s with heap := h', toks := tk' }) :
    wpAny (model PySem.Challenge.rw_sa0081_01.row.prog w) (A.deeper env) (call (.ref 156) [.ref DB, .int many tm]) Q E s := by
  refine SpM.use (take_spec w DB DS hne M hB many h0 h1 tm) (r.le (by omega)) X T F N [] (fun _ h => h) (fun _ h => nomatch h) (fun _ h => nomatch h) fun v M' h' tk' hR F' N' _ => ?_
  obtain ⟨x, tx, rfl, hx0, hx1, hB'⟩ := hR
  exact k x tx M' h' tk' hx0 hx1 hB' F' (by rw [List.append_nil] at N'; exact N')
local macro_rules | `(tactic| walk_at "my got") => `(tactic| ((rename _ = some _ => hv9); k_dflt (have e9 := Option.some.inj hv9); subst e9))
local macro_rules | `(tactic| walk_at "call ref") => `(tactic| (k_dflt (refine' take_use ?hne ?h0 ?h1 ?cr ?cx ?ct ?cf ?cn ?cb ?_); (case hne => assumption); (case h0 => decide); (case h1 => decide); (case cr => walk_at "my rm"); (case cx => assumption); (case ct => assumption); (case cf => assumption); (case cn => assumption); (case cb => assumption); (intro x' tx' M' h' tk' hx0 hx1 hB' F' N'); k_sweep))
theorem factors_spec (w : World) (DB DS : Addr) (hne : DB ≠ DS) (M : Ledger) (hM : Box DB DS M) :
    SpM w 173 3 [.ref DB] M (FactorsR DB DS) := by
  k_dflt (refine' SpM.def [(Str.ofString "box", .ref DB)] ?ho ?hc ?hb ?hl ?c1 ?c2 ?c3 ?c4 ?_)
  walk_at "my def"
  intro dp un fr gd s mean mg mb g L h₁ tk rm X T F N
  k_fold
  walk_at "my steps"
  · rename Fr _ _ _ _ => F5
    rename News _ _ _ _ => N5
    rename Box _ _ _ => hB5
    rename _ < _ ∧ AllLt _ _ => q1
    rename _ < _ ∧ _ < _ ∧ AllLt _ _ => q2
    rename _ < _ ∧ _ < _ ∧ _ < _ ∧ AllLt _ _ => q3
    rename ∀ (p : Addr × Obj), p ∈ _ :: _ → p.1 < _ => q4
    rename _ < _ ∧ _ < _ ∧ _ < _ ∧ _ < _ ∧ _ < _ ∧ AllLt _ _ => q5
    exact fac_quad F5 hB5 (by assumption) (by assumption) (by assumption) (by assumption) N5 q1 q2 q3 q4 q5
  · rename Fr _ _ _ _ => F5
    rename News _ _ _ _ => N5
    rename Box _ _ _ => hB5
    rename ∀ (p : Addr × Obj), p ∈ _ :: _ → p.1 < _ => q1
    obtain ⟨D5, vr, roots, hD5, N6, hi, hr3, hSh⟩ := fac_three N5 (by assumption) (by assumption) (by assumption) (by assumption) (by assumption) (by assumption)
    subst hD5
    clear N5
    have hvl := hi.length
    refine' Stop.mk (LCg.CompSrc.ledger (k := 0) (its := vr.toArray) rfl F5 N6 (.head _) (by simp [sizeLine_eq]; omega) ?rest)
    case rest =>
      intro g'
      refine comp_facs (fun i => [0 - roots.getD i 0, 1]) (fun T => .inr ⟨_, .head _, rfl, _, rfl⟩) ?turn ?fin
      case turn =>
        intro i v I oI C oC D m₂ ys T h tk E' hii hv hC hx F6 N7
        obtain ⟨k, t, rfl, hk⟩ := IntsAre.at hi i v (by simpa using hv)
        have e8 : roots.getD i 0 = k := by simp [List.getD, hk]
        rw [e8]
        clear F5 N6
        walk_at "my steps"
        rename Fr _ _ _ _ => F7
        rename News _ _ _ _ => N8
        rename I < _ ∧ _ => l7
        exact ⟨_, _, _, _, _, rfl, F7, N8, rfl, .cons _ _ (.cons _ _ .nil), AllLt.ne (l := (I, oI) :: (C, oC) :: (D, LCg.lst ys) :: _) l7⟩
      case fin =>
        intro T ys hT hy
        have e9 : vr.toArray.size = roots.length := by simpa using hvl
        rw [e9, range_getD (fun r : Int => [0 - r, 1]) 0] at hy
        clear F5 N6
        walk_at "my steps"
        rename Fr _ _ _ _ => F7
        rename News _ _ _ _ => N8
        rename LCg.Off1 _ _ => o9
        rename _ < _ ∧ _ < _ ∧ _ < _ ∧ AllLt _ _ => l9
        exact fac_comp F7 hB5 hi hy hSh N8 hT q1 (fun d hd => Off1.mem o9 d (List.mem_append_left _ (.tail _ (.tail _ hd)))) (fun d hd => AllLt.ne l9.2.2.2 d (List.mem_append_left _ hd))
  · rename Fr _ _ _ _ => F5
    rename News _ _ _ _ => N5
    rename Box _ _ _ => hB5
    rename ∀ (p : Addr × Obj), p ∈ _ :: _ → p.1 < _ => q1
    obtain ⟨D5, vr, roots, hD5, N6, hi, hr3, hSh⟩ := fac_two N5 (by assumption) (by assumption) (by assumption) (by assumption) (by assumption) (by assumption)
    subst hD5
    clear N5
    have hvl := hi.length
    refine' Stop.mk (LCg.CompSrc.ledger (k := 0) (its := vr.toArray) rfl F5 N6 (.head _) (by simp [sizeLine_eq]; omega) ?rest)
    case rest =>
      intro g'
      refine comp_facs (fun i => [0 - roots.getD i 0, 1]) (fun T => .inr ⟨_, .head _, rfl, _, rfl⟩) ?turn ?fin
      case turn =>
        intro i v I oI C oC D m₂ ys T h tk E' hii hv hC hx F6 N7
        obtain ⟨k, t, rfl, hk⟩ := IntsAre.at hi i v (by simpa using hv)
        have e8 : roots.getD i 0 = k := by simp [List.getD, hk]
        rw [e8]
        clear F5 N6
        walk_at "my steps"
        rename Fr _ _ _ _ => F7
        rename News _ _ _ _ => N8
        rename I < _ ∧ _ => l7
        exact ⟨_, _, _, _, _, rfl, F7, N8, rfl, .cons _ _ (.cons _ _ .nil), AllLt.ne (l := (I, oI) :: (C, oC) :: (D, LCg.lst ys) :: _) l7⟩
      case fin =>
        intro T ys hT hy
        have e9 : vr.toArray.size = roots.length := by simpa using hvl
        rw [e9, range_getD (fun r : Int => [0 - r, 1]) 0] at hy
        clear F5 N6
        walk_at "my steps"
        rename Fr _ _ _ _ => F7
        rename News _ _ _ _ => N8
        rename LCg.Off1 _ _ => o9
        rename _ < _ ∧ _ < _ ∧ _ < _ ∧ AllLt _ _ => l9
        exact fac_comp F7 hB5 hi hy hSh N8 hT q1 (fun d hd => Off1.mem o9 d (List.mem_append_left _ (.tail _ (.tail _ hd)))) (fun d hd => AllLt.ne l9.2.2.2 d (List.mem_append_left _ hd))
end
def wholeAt (facs : List (List Int)) (i : Nat) : List Int := (facs.take i).foldl timesP [1]
def otherStep (k : Nat) (o : List Int) (se : Nat × List Int) : List Int := if se.1 = k then o else timesP o se.2
def otherAt (facs : List (List Int)) (k j : Nat) : List Int := ((enumL 0 facs).take j).foldl (otherStep k) [1]
def smallI (ns : List Int) : Bool := decide (ns.length ≤ 300) && ns.all okI
theorem smallI.len {ns : List Int} (h : smallI ns = true) : ns.length ≤ 300 := by
  unfold smallI at h
  simp only [Bool.and_eq_true, decide_eq_true_eq] at h
  exact h.1
theorem smallI.ok {ns : List Int} (h : smallI ns = true) : ∀ x ∈ ns, okI x = true := by
  unfold smallI at h
  simp only [Bool.and_eq_true, List.all_eq_true] at h
  exact h.2
abbrev Poly := List Q2
/-- what the law asks of the factors, without h -/
structure LawPure (facs : List (List Int)) (roots : List Int) (full : Poly) (parts : List Poly) (tot : Nat → Poly) : Prop where
  n3 : facs.length ≤ 3
  r3 : roots.length ≤ 3
  wholeS : ∀ i, i ≤ facs.length → smallI (wholeAt facs i) = true
  fac : ∀ (i : Nat) (f : List Int), facs[i]? = some f → smallI f = true ∧ (rowP f).length ≤ 300
  otherS : ∀ k j, k < facs.length → j ≤ facs.length → smallI (otherAt facs k j) = true
  fullE : full = rowP (wholeAt facs facs.length)
  full3 : full.length ≤ 300
  partsL : parts.length = facs.length
  partS : ∀ (k : Nat) (f : List Int), facs[k]? = some f → ∃ t l m q r, qextendedO (rowP (otherAt facs k facs.length)) (rowP f) = some ([(1, 1)], t, l) ∧ qmulO (rowP (otherAt facs k facs.length)) t = some m ∧ t.length ≤ 300 ∧ m.length ≤ 300 ∧ qdivmodO m full = some (q, r) ∧ parts[k]? = some r ∧ (rowP (otherAt facs k facs.length)).length ≤ 300
  small : ∀ (k : Nat) (p : Poly), parts[k]? = some p → p.length ≤ 300
  cross : ∀ (k j : Nat) (p q : Poly), j ≤ k → parts[k]? = some p → parts[j]? = some q → ∃ m d, qmulO p q = some m ∧ m.length ≤ 300 ∧ qdivmodO m full = some (d, if j = k then p else [])
  root : ∀ (k : Nat) (p : Poly) (j : Nat) (r : Int), parts[k]? = some p → roots[j]? = some r → qatO p (r, 1) = some (if j = k then 1 else 0, 1)
  tot0 : tot 0 = []
  totS : ∀ (k : Nat) (p : Poly), parts[k]? = some p → qaddO (tot k) p = some (tot (k + 1)) ∧ (tot k).length ≤ 300
  totE : tot facs.length = [(1, 1)]
/-- what it asks of h -/
structure HPure (facs : List (List Int)) (full : Poly) (parts : List Poly) (h : Poly) (back : Nat → Poly) : Prop where
  h3 : h.length ≤ 300
  b0 : back 0 = []
  bS : ∀ (k : Nat) (f : List Int) (p : Poly), facs[k]? = some f → parts[k]? = some p → ∃ q r m, qdivmodO h (rowP f) = some (q, r) ∧ qmulO r p = some m ∧ r.length ≤ 300 ∧ m.length ≤ 300 ∧ qaddO (back k) m = some (back (k + 1)) ∧ (back k).length ≤ 300
  fin : (back facs.length).length ≤ 300 ∧ ∃ q q' r, qdivmodO (back facs.length) full = some (q, r) ∧ qdivmodO h full = some (q', r)
def LawThm : Prop := ∀ facs roots, Shape facs roots → ∃ full parts tot, LawPure facs roots full parts tot ∧ ∀ hs : List Int, hs.length = (wholeAt facs facs.length).length → (∀ x ∈ hs, -3 ≤ x ∧ x ≤ 3) → ∃ back, HPure facs full parts (rowP hs) back
def IntTL (T : Ledger) (v : Value) (ns : List Int) : Prop := ∃ l n us, v = .ref l ∧ (l, lstO us n) ∈ T ∧ IntsAre us ns
theorem IntTL.at {g h : Heap} {L : Addr} {T news : Ledger} {v : Value} {ns : List Int} (x : IntTL T v ns) (N : News g L h news) (sub : ∀ e ∈ T, e ∈ news) : IntL h v ns := by
  obtain ⟨l, n, us, e, hm, hi⟩ := x
  exact ⟨l, n, us, e, (N _ (sub _ hm)).1, hi⟩
theorem FacL.get' {T : Ledger} {vs : List Value} {p : List (List Int)} {i : Nat} {v : Value} (x : FacL T vs p) (e : vs[i]? = some v) : ∃ f, p[i]? = some f ∧ IntTL T v f := x.get e
section
variable {w : World} {f : Addr} {n : Nat} {vals : List Value} {P : Heap → Prop} {A : Around} {s : Shared} {mean : ExcName → Option Value} {mg mb : Str → Option Value} {h₀ : Heap} {L : Addr} {m : Str → Option Value} {news : Ledger} {env : Env} {Q E : Value → Shared → Prop}
theorem Sp.useI {ns : List Int} (S : Sp w f n vals P (fun b v h => IntNew b h v ns)) (r : Rm A (n + 1)) (X : (hd.heap_1 w.params).In h₀) (T : Top hv (looseW hv []) mean mg mb h₀) (F : Fr h₀ L s.heap m) (N : News h₀ L s.heap news) (hP : P s.heap)
    (k : ∀ l n vs h' tk', IntsAre vs ns → (∀ e ∈ news, e.1 ≠ l) → Fr h₀ L h' m → News h₀ L h' ((l, lstO vs n) :: news) → Q (.ref l) { s with heap := h', toks := tk' }) :
    wpAny (model PySem.Challenge.rw_sa0081_01.row.prog w) (A.deeper env) (call (.ref f) vals) Q E s := by
  refine S.use2 r X T F N hP fun v h' tk' st st0 F' N' hR => ?_
  obtain ⟨l, n, vs, rfl, hb, e, hi⟩ := hR
  refine k l n vs h' tk' hi (fun e he => ne_of_none ⟨_, (N e he).1⟩ hb) F' fun p hp => ?_
  rcases List.mem_cons.mp hp with rfl | hp
  · exact ⟨e, ns_ne_seq F' e rfl, none_down st0 hb⟩
  · exact N' p hp
end
theorem fac_open {DB DS : Addr} {g h : Heap} {L c1 c2 c3 : Addr} {o1 o2 o3 : Obj} {v : Value} {M' : Ledger} (hR : FactorsR DB DS v M') (N : News g L h (M' ++ [(c1, o1), (c2, o2), (c3, o3)])) :
    ∃ t nt lf nf vf lr nr vr Tf B facs roots, v = .ref t ∧ News g L h ((c1, o1) :: (c2, o2) :: (c3, o3) :: (t, tupO #[.ref lf, .ref lr] nt) :: (lf, lstO vf nf) :: (lr, lstO vr nr) :: (Tf ++ B)) ∧ Box DB DS B ∧ FacL Tf vf facs ∧ IntsAre vr roots ∧ Shape facs roots ∧
    ((t ≠ DB ∧ t ≠ DS) ∧ (lf ≠ DB ∧ lf ≠ DS) ∧ (lr ≠ DB ∧ lr ≠ DS) ∧ ∀ e ∈ Tf, e.1 ≠ DB ∧ e.1 ≠ DS) := by
  obtain ⟨t, nt, lf, nf, vf, lr, nr, vr, Tf, B, facs, roots, rfl, rfl, a1, a2, a3, a4, a5⟩ := hR
  refine ⟨t, nt, lf, nf, vf, lr, nr, vr, Tf, B, facs, roots, rfl, fun p hp => N p ?_, a1, a2, a3, a4, a5⟩
  simp only [List.mem_cons, List.mem_append, List.not_mem_nil, or_false] at hp ⊢
  rcases hp with hp | hp | hp | hp | hp | hp | hp | hp <;> first | walk_at "my or" | simp [hp]
structure WhS where
  lw : Addr
  nw : Nat
  vw : List Value
  ws : List Int
theorem wholeAt_succ {facs : List (List Int)} {i : Nat} {f : List Int} (h : facs[i]? = some f) : wholeAt facs (i + 1) = timesP (wholeAt facs i) f := by
  unfold wholeAt
  rw [List.take_add_one, h, Option.toList_some, List.foldl_append]
  rfl
theorem getElem?_lt {α : Type} {l : List α} {i : Nat} {x : α} (h : l[i]? = some x) : i < l.length := by
  rcases Nat.lt_or_ge i l.length with h' | h'
  · exact h'
  · rw [List.getElem?_eq_none h'] at h
    cases h
theorem whole_init {g h : Heap} {L l : Addr} {t : Tok} {rest B : Ledger} {DB DS : Addr} (N : News g L h ((l, lstO [.int 1 t] 0) :: rest)) (hB : Box DB DS B) (x : ∀ d ∈ B, d.1 < l) :
    ∃ lw vw, lw = l ∧ News g L h ((lw, lstO vw 0) :: rest) ∧ IntsAre vw [1] ∧ lw ≠ DB ∧ lw ≠ DS := by
  have := box_mem hB (P := fun d => d < l) x
  exact ⟨l, _, rfl, N, .cons _ _ .nil, Ne.symm (Nat.ne_of_lt this.1), Ne.symm (Nat.ne_of_lt this.2)⟩
theorem AllLt.mem {t : Addr} : ∀ {l : Ledger}, AllLt t l → ∀ e ∈ l, e.1 < t
  | [], _, _, h => nomatch h
  | p :: r, x, e, h => by
    rcases List.mem_cons.mp h with rfl | h
    · exact x.1
    · exact AllLt.mem x.2 e h
/-- the ledger of the law's frame, behind the newest objects: the box last -/
def W1 (lw : Addr) (vw : List Value) (nw : Nat) (L : Addr) (oC oA oB : Obj) (t1 lf lr nt : Nat) (vf : List Value) (nf : Nat) (vr : List Value) (nr : Nat) (Tf : Ledger) : Ledger :=
  (lw, lstO vw nw) :: (L + 1, oC) :: (L + 1 + 1 + 1, oA) :: (L + 1 + 1, oB) :: (t1, tupO #[.ref lf, .ref lr] nt) :: (lf, lstO vf nf) :: (lr, lstO vr nr) :: Tf
theorem W1_apart {lw : Addr} {vw : List Value} {nw : Nat} {L : Addr} {oC oA oB : Obj} {t1 lf lr nt : Nat} {vf : List Value} {nf : Nat} {vr : List Value} {nr : Nat} {Tf : Ledger} {DB DS : Addr}
    (hw : lw ≠ DB ∧ lw ≠ DS) (hB3 : DB ≠ L + 1 + 1 + 1 ∧ DB ≠ L + 1 + 1 ∧ DB ≠ L + 1) (hS3 : DS ≠ L + 1 + 1 + 1 ∧ DS ≠ L + 1 + 1 ∧ DS ≠ L + 1)
    (hap : (t1 ≠ DB ∧ t1 ≠ DS) ∧ (lf ≠ DB ∧ lf ≠ DS) ∧ (lr ≠ DB ∧ lr ≠ DS) ∧ ∀ e ∈ Tf, e.1 ≠ DB ∧ e.1 ≠ DS) : ∀ e ∈ W1 lw vw nw L oC oA oB t1 lf lr nt vf nf vr nr Tf, e.1 ≠ DB ∧ e.1 ≠ DS := by
  intro e he
  simp only [W1, List.mem_cons] at he
  rcases he with rfl | rfl | rfl | rfl | rfl | rfl | rfl | he
  · exact hw
  · exact ⟨hB3.2.2.symm, hS3.2.2.symm⟩
  · exact ⟨hB3.1.symm, hS3.1.symm⟩
  · exact ⟨hB3.2.1.symm, hS3.2.1.symm⟩
  · exact hap.1
  · exact hap.2.1
  · exact hap.2.2.1
  · exact hap.2.2.2 e he
theorem box_apart {DB DS : Addr} {M rest : Ledger} (hB : Box DB DS M) (h : ∀ e ∈ rest, e.1 ≠ DB ∧ e.1 ≠ DS) : ∀ e ∈ rest, ∀ d ∈ M, e.1 ≠ d.1 := by
  intro e he d hd
  rcases hB.keys d hd with q | q <;> rw [q]
  · exact (h e he).1
  · exact (h e he).2
theorem apart_of {DB DS I : Addr} {M : Ledger} (hB : Box DB DS M) (h : ∀ d ∈ M, d.1 ≠ I) : I ≠ DB ∧ I ≠ DS := by
  have := box_mem hB (P := fun d => d ≠ I) h
  exact ⟨this.1.symm, this.2.symm⟩
theorem News.drop2 {g h : Heap} {L : Addr} {a b : Addr × Obj} {l : Ledger} (N : News g L h (a :: b :: l)) : News g L h (a :: l) := fun p hp => by
  rcases List.mem_cons.mp hp with rfl | hp
  · exact N _ (.head _)
  · exact N _ (.tail _ (.tail _ hp))
theorem off_join {I C D : Addr} {oI oC oD : Obj} {W M M' : Ledger} (off : LCg.Off3 I C D (W ++ M)) (h : ∀ e ∈ ((I, oI) :: (C, oC) :: (D, oD) :: W), ∀ d ∈ M', e.1 ≠ d.1) : LCg.Off3 I C D (W ++ M') := LCg.Off3.of fun p hp => by
  rcases List.mem_append.mp hp with hp | hp
  · exact off.mem p (List.mem_append_left _ hp)
  · exact ⟨(h _ (.head _) p hp).symm, (h _ (.tail _ (.head _)) p hp).symm, (h _ (.tail _ (.tail _ (.head _))) p hp).symm⟩
theorem take_in {w : World} {DB DS : Addr} {M W : Ledger} {many : Int} {tm : Tok} {n : Nat} {A : Around} {s : Shared} {mean : ExcName → Option Value} {mg mb : Str → Option Value} {h₀ : Heap} {L I C D : Addr} {oI oC oD : Obj} {m : Str → Option Value} {env : Env} {Q E : Value → Shared → Prop}
    (hS : ∀ M, Box DB DS M → SpM w 156 1 [.ref DB, .int many tm] M (fun v M' => ∃ x tx, v = .int x tx ∧ 0 ≤ x ∧ x < many ∧ Box DB DS M')) (r : Rm A (n + 2)) (X : (hd.heap_1 w.params).In h₀) (T : Top hv (looseW hv []) mean mg mb h₀) (F : Fr h₀ L s.heap m)
    (N : News h₀ L s.heap ((I, oI) :: (C, oC) :: (D, oD) :: (W ++ M))) (off : LCg.Off3 I C D (W ++ M)) (hB : Box DB DS M) (hW : ∀ e ∈ W, e.1 ≠ DB ∧ e.1 ≠ DS)
    (k : ∀ x tx M' h' tk', 0 ≤ x → x < many → Box DB DS M' → Fr h₀ L h' m → News h₀ L h' ((I, oI) :: (C, oC) :: (D, oD) :: (W ++ M')) → LCg.Off3 I C D (W ++ M') → Q (.int x tx) { s with heap := h', toks := tk' }) :
    wpAny (model PySem.Challenge.rw_sa0081_01.row.prog w) (A.deeper env) (call (.ref 156) [.ref DB, .int many tm]) Q E s := by
  have oI' := apart_of (I := I) hB fun d hd => (off.mem d (List.mem_append_right _ hd)).1
  have oC' := apart_of (I := C) hB fun d hd => (off.mem d (List.mem_append_right _ hd)).2.1
  have oD' := apart_of (I := D) hB fun d hd => (off.mem d (List.mem_append_right _ hd)).2.2
  refine SpM.use (hS M hB) (r.le (by omega)) X T F N ((I, oI) :: (C, oC) :: (D, oD) :: W) (fun e he => by first | walk_at "my mem" | simp [he]) (fun e he => by
    simp only [List.mem_cons, List.mem_append] at he ⊢
    rcases he with he | he | he | he <;> first | walk_at "my or" | simp [he]) (box_apart hB fun e he => by
    simp only [List.mem_cons] at he
    rcases he with rfl | rfl | rfl | he
    · exact oI'
    · exact oC'
    · exact oD'
    · exact hW e he) fun v M' h' tk' hR F' N' hap => ?_
  obtain ⟨x, tx, rfl, hx0, hx1, hB'⟩ := hR
  refine k x tx M' h' tk' hx0 hx1 hB' F' (fun p hp => N' p ?_) (off_join off hap)
  simp only [List.mem_cons, List.mem_append] at hp ⊢
  rcases hp with hp | hp | hp | hp | hp <;> first | walk_at "my or" | simp [hp]
def sq (e : Addr × Obj) : Bool := match e.2.data with
  | .seq _ _ => true
  | _ => false
theorem sq_seq {e : Addr × Obj} {xs : Array Value} {n : Nat} (h : e.2.data = .seq xs n) : sq e = true := by
  unfold sq
  rw [h]
section
variable {prog : Program} {w : World} {A : Around} {s : Shared} {env : Env} {h₀ : Heap} {target : PySem.Expr} {body : List Stmt} {Q : Flow → Shared → Prop} {m : Str → Option Value}
theorem turns_K2 {σ : Type} {n : Nat} {I : Addr} {fp wr : List Addr} {P Md : Nat → Value → Heap → Prop} {St : Nat → Heap → Prop} (W : KTurns prog w A target I fp wr n P Md St) (hLf : env.locals ∉ fp) (hwr : ∀ b ∈ wr, h₀.get? b = none)
    (ps : σ → List (Str × Value)) (led : σ → Ledger) (Inv : Nat → σ → Prop) (c₀ : σ) (hok : ∀ i c, Inv i c → ∀ p ∈ led c, sq p = true ∨ ∃ q ∈ led c₀, q.1 = p.1) (hn0 : ∀ p ∈ led c₀, p.1 ∉ wr)
    (hcls : ∀ i h, St i h → ∀ b ∈ wr, ∃ o, h.get? b = some o ∧ sq (b, o) = false) (hfp : ∀ b ∈ fp, b ∈ wr ∨ (∃ o, h₀.get? b = some o) ∨ ∃ o, ∀ i c, Inv i c → (b, o) ∈ led c)
    (hst : St 0 s.heap) (F : Fr h₀ env.locals s.heap m) (hk : ∀ p ∈ ps c₀, m p.1 = some p.2) (N : News h₀ env.locals s.heap (led c₀)) (h0 : Inv 0 c₀)
    (turn : ∀ i v c u own h tk, i < n → P i v h → Inv i c → (∀ q ∈ own, sq q = false ∧ ∀ p ∈ led c₀, p.1 ≠ q.1) → Fr h₀ env.locals h (over (ps c) u) → News h₀ env.locals h (led c ++ own) →
      wpAny (model prog w) A (assign target env v) (fun _ s₃ => wpAny (model prog w) A (execs body env) (FEnd h₀ env.locals own s ps led Inv Q (i + 1)) NoE s₃) NoE { s with heap := h, toks := tk })
    (fin : ∀ c u h tk, Inv n c → Fr h₀ env.locals h (over (ps c) u) → News h₀ env.locals h (led c) → Q .next { s with heap := h, toks := tk }) :
    TurnsAt prog w A h₀ env target body Q NoE (.ref I) s := by
  let J : Nat → (Str → Option Value) → Ledger → Prop := fun i m news => ∃ c, (∀ p ∈ ps c, m p.1 = some p.2) ∧ news = led c ∧ Inv i c
  have off : ∀ i h c, St i h → Inv i c → News h₀ env.locals h (led c) → ∀ p ∈ led c, p.1 ∉ wr := by
    intro i h c st hI Nl p hp hw
    obtain ⟨o, e, ho⟩ := hcls i h st p.1 hw
    have e2 := (Nl p hp).1
    rw [e] at e2
    cases e2
    rcases hok i c hI p hp with hq | ⟨q, hq, hqe⟩
    · rw [show sq (p.1, p.2) = sq p from rfl, hq] at ho
      cases ho
    · exact hn0 q hq (hqe ▸ hw)
  refine ⟨I, fp, wr, n, P, Md, St, m, led c₀, J, rfl, W, hLf, hwr, off 0 _ _ hst h0 N, hst, F, N, ⟨c₀, hk, rfl, h0⟩, ?_, ?_⟩
  · rintro i v m₁ news₁ h₁ tk₁ own hin hP ⟨c, hkc, rfl, hI⟩ hnw hown hget hall hst₁ F₁ N₁
    have F₂ : Fr h₀ env.locals h₁ (over (ps c) m₁) := by rw [over_eq hkc]; exact F₁
    have N₂ : News h₀ env.locals h₁ (led c ++ own.filter fun q => wr.contains q.1) := fun p hp => by
      rcases List.mem_append.mp hp with hp | hp
      · exact N₁ p (List.mem_append_right _ hp)
      · exact N₁ p (List.mem_append_left _ (List.mem_filter.mp hp).1)
    have fin' : ∀ s₃, (∃ c h' tk m', s₃ = { s with heap := h', toks := tk } ∧ Fr h₀ env.locals h' m' ∧ (∀ p ∈ ps c, m' p.1 = some p.2) ∧ News h₀ env.locals h' (led c ++ own.filter fun q => wr.contains q.1) ∧ Inv (i + 1) c) →
        LoopStepU h₀ env.locals wr own (J (i + 1)) { s with heap := h₁, toks := tk₁ } .next s₃ := by
      rintro s₃ ⟨c', h', tk', m', rfl, F', hk', N', hI'⟩
      refine ⟨rfl, h', tk', m', led c', rfl, F', fun q hq => ?_, fun p hp hw => ?_, ⟨c', hk', rfl, hI'⟩⟩
      · rcases List.mem_append.mp hq with hq | hq
        · by_cases hq2 : q.1 ∈ wr
          · exact N' q (List.mem_append_right _ (List.mem_filter.mpr ⟨hq, by simpa using hq2⟩))
          · rcases hfp q.1 (hown q hq) with hw | ⟨o, ho⟩ | ⟨o, ho⟩
            · exact absurd hw hq2
            · have := (N₁ q (List.mem_append_left _ hq)).2.2
              rw [ho] at this
              cases this
            · have e1 := (N₁ _ (List.mem_append_right _ (ho i c hI))).1
              have e2 := hget q hq
              rw [show (q.1, o).1 = q.1 from rfl, e2] at e1
              have e3 : q = (q.1, o) := Prod.ext rfl (Option.some.inj e1)
              rw [e3]
              exact N' _ (List.mem_append_left _ (ho _ c' hI'))
        · exact N' q (List.mem_append_left _ hq)
      · obtain ⟨o, e, ho⟩ := hcls _ h₁ hst₁ p.1 hw
        have hm := hall p.1 (W.sub _ hw) (hwr _ hw) o e
        have e1 := (N' (p.1, o) (List.mem_append_right _ (List.mem_filter.mpr ⟨hm, by simpa using hw⟩))).1
        have e2 := (N' p (List.mem_append_left _ hp)).1
        rw [show (p.1, o).1 = p.1 from rfl, e2] at e1
        have e3 := Option.some.inj e1
        rw [← show p.2 = o from e3, show sq (p.1, p.2) = sq p from rfl] at ho
        rcases hok _ c' hI' p hp with hq | ⟨q, hq, hqe⟩
        · rw [hq] at ho
          cases ho
        · exact hn0 q hq (hqe ▸ hw)
    refine wpAny_mono (turn i v c m₁ _ h₁ tk₁ hin hP hI (fun q hq => by
      have hq1 := (List.mem_filter.mp hq).1
      have hq2 : q.1 ∈ wr := by simpa using (List.mem_filter.mp hq).2
      obtain ⟨o, e, ho⟩ := hcls _ h₁ hst₁ q.1 hq2
      rw [hget q hq1] at e
      cases e
      exact ⟨ho, fun p hp hpq => hn0 p hp (hpq ▸ hq2)⟩) F₂ N₂) (fun _ s₂ h₂ => wpAny_mono h₂ (fun f s₃ p => ?_) fun _ _ e => e) fun _ _ e => e
    cases f with
    | ret v => exact .ret p
    | brk => exact .brk p
    | next => exact .next (fin' _ p)
    | cont => exact .cont (fin' _ p)
  · rintro h' tk m' news' F' N' _ ⟨c, hkc, rfl, hI⟩
    exact fin c m' h' tk hI (by rw [over_eq hkc]; exact F') N'
/-- for x in l -/
theorem iter_list2 {σ : Type} {l : Addr} {vs : List Value} (hh : A.handled = none) (ps : σ → List (Str × Value)) (led : σ → Ledger) (Inv : Nat → σ → Prop) (c₀ : σ) (hok : ∀ i c, Inv i c → ∀ p ∈ led c, sq p = true ∨ ∃ q ∈ led c₀, q.1 = p.1)
    (hl : s.heap.IsList l vs.toArray) (hsrc : (∃ o, h₀.get? l = some o) ∨ ∃ o, ∀ i c, Inv i c → (l, o) ∈ led c) (hlL : l ≠ env.locals)
    (F : Fr h₀ env.locals s.heap m) (hk : ∀ p ∈ ps c₀, m p.1 = some p.2) (N : News h₀ env.locals s.heap (led c₀)) (h0 : Inv 0 c₀)
    (turn : ∀ i v c u own h tk, vs[i]? = some v → Inv i c → (∀ q ∈ own, sq q = false ∧ ∀ p ∈ led c₀, p.1 ≠ q.1) → Fr h₀ env.locals h (over (ps c) u) → News h₀ env.locals h (led c ++ own) →
      wpAny (model prog w) A (assign target env v) (fun _ s₃ => wpAny (model prog w) A (execs body env) (FEnd h₀ env.locals own s ps led Inv Q (i + 1)) NoE s₃) NoE { s with heap := h, toks := tk })
    (fin : ∀ c u h tk, Inv vs.length c → Fr h₀ env.locals h (over (ps c) u) → News h₀ env.locals h (led c) → Q .next { s with heap := h, toks := tk }) :
    wpAny (model prog w) A (pyIter (.ref l)) (fun it s₂ => TurnsAt prog w A h₀ env target body Q NoE it s₂) NoE s := by
  have hlt : l < s.heap.objs.size := by obtain ⟨_, e, _⟩ := hl; exact Heap.lt_size e
  have hne : l ≠ s.heap.objs.size := Nat.ne_of_lt hlt
  refine wpAny_pyIter_list hl ?_
  have W := KTurns.ofWalks (target := target) (Walks.list (prog := prog) (w := w) hh s.heap.objs.size l hne vs.toArray) fun i v s Q E st q => letGo_listiter st.1 q
  refine turns_K2 (s := { s with heap := s.heap.push { cls := .type "list_iterator", data := .fields #[.ref l, .int 0 0] } }) W ?_ ?_ ps led Inv c₀ hok ?_ ?_ ?_ ?_ (F.push _) hk (fun p hp => ⟨Heap.get?_push_of_some _ (N p hp).1, (N p hp).2⟩) h0 (fun i v c u own h tk hi hP hI ho F₁ N₁ => ?_) (fun c u h tk hI F₁ N₁ => ?_)
  · intro hI
    rcases List.mem_cons.mp hI with e | hI
    · exact absurd F.ns.lt (e ▸ Nat.lt_irrefl _)
    · exact hlL (List.mem_singleton.mp hI).symm
  · intro b hb
    rw [List.mem_singleton.mp hb]
    exact next_is_new F
  · intro p hp hw
    exact Nat.ne_of_lt (Heap.lt_size (N p hp).1) (List.mem_singleton.mp hw)
  · rintro i h ⟨⟨o, e, hc, HD⟩, _⟩ b hb
    rw [List.mem_singleton.mp hb]
    exact ⟨o, e, by simp [sq, HD]⟩
  · intro b hb
    rcases List.mem_cons.mp hb with rfl | hb
    · exact .inl (by simp)
    · rw [List.mem_singleton.mp hb]
      exact .inr hsrc
  · exact ⟨⟨_, Heap.get?_push_size _ rfl, rfl, rfl⟩, hl.at fun o e => Heap.get?_push_of_some _ e⟩
  · exact turn i v c u own h tk (by have hP' : vs.toArray[i]? = some v := hP; simpa using hP') hI ho F₁ N₁
  · exact fin c u h tk (by simpa using hI) F₁ N₁
/-- for i, x in enumerate(l) -/
theorem iter_enum2 {σ : Type} {l : Addr} {vs : List Value} {elts : List PySem.Expr} {kk : Nat} {pos : Pos} (hh : A.handled = none) (ps : σ → List (Str × Value)) (led : σ → Ledger) (Inv : Nat → σ → Prop) (c₀ : σ) (hok : ∀ i c, Inv i c → ∀ p ∈ led c, sq p = true ∨ ∃ q ∈ led c₀, q.1 = p.1)
    (hl : s.heap.IsList l vs.toArray) (hsrc : (∃ o, h₀.get? l = some o) ∨ ∃ o, ∀ i c, Inv i c → (l, o) ∈ led c) (hlL : l ≠ env.locals)
    (F : Fr h₀ env.locals s.heap m) (hk : ∀ p ∈ ps c₀, m p.1 = some p.2) (N : News h₀ env.locals s.heap (led c₀)) (h0 : Inv 0 c₀)
    (turn : ∀ (i : Nat) x T t c u own h tk, vs[i]? = some x → IsTup h T #[.int i t, x] → Inv i c → (∀ q ∈ own, sq q = false ∧ ∀ p ∈ led c₀, p.1 ≠ q.1) → Fr h₀ env.locals h (over (ps c) u) → News h₀ env.locals h (led c ++ own) →
      wpAny (model prog w) A (assign (.Tuple elts kk pos) env (.ref T)) (fun _ s₃ => wpAny (model prog w) A (execs body env) (FEnd h₀ env.locals own s ps led Inv Q (i + 1)) NoE s₃) NoE { s with heap := h, toks := tk })
    (fin : ∀ c u h tk, Inv vs.length c → Fr h₀ env.locals h (over (ps c) u) → News h₀ env.locals h (led c) → Q .next { s with heap := h, toks := tk }) :
    wpAny (model prog w) A (call (.type "enumerate") [.ref l]) (fun xv s₁ => wpAny (model prog w) A (pyIter xv) (fun it s₂ => TurnsAt prog w A h₀ env (.Tuple elts kk pos) body Q NoE it s₂) NoE s₁) NoE s := by
  have hlt : l < s.heap.objs.size := by obtain ⟨_, e, _⟩ := hl; exact Heap.lt_size e
  have hLs : env.locals < s.heap.objs.size := F.ns.lt
  refine call_enumerate_list hl fun h' hE hI hsz hkk => ?_
  refine wpAny_pyIter_enum hE ?_
  have W := KTurns.ofWalksU (elts := elts) (k := kk) (pos := pos) (WalksT.enumerate (prog := prog) (w := w) hh (s.heap.objs.size + 1) s.heap.objs.size l (Nat.succ_ne_self _) (ktu_ne 1 hlt) (Nat.ne_of_lt hlt) vs.toArray).toU
  refine turns_K2 (s := { s with heap := h' }) W ?_ ?_ ps led Inv c₀ hok ?_ ?_ ?_ ?_ (F.keeps hkk) hk (N.grown hkk) h0 (fun i v c u own h tk hi hP hI ho F₁ N₁ => ?_) (fun c u h tk hI F₁ N₁ => ?_)
  · intro hI'
    have hb' : env.locals = s.heap.objs.size + 1 ∨ env.locals = s.heap.objs.size ∨ env.locals = l := by simpa using hI'
    rcases hb' with e | e | e
    · exact ktu_ne 1 hLs e
    · exact Nat.ne_of_lt hLs e
    · exact hlL e.symm
  · intro b hb
    have hb' : b = s.heap.objs.size + 1 ∨ b = s.heap.objs.size := by simpa using hb
    rcases hb' with rfl | rfl
    · exact ktu_new F (Nat.le_add_right _ _)
    · exact ktu_new F (Nat.le_refl _)
  · intro p hp hw
    have hb' : p.1 = s.heap.objs.size + 1 ∨ p.1 = s.heap.objs.size := by simpa using hw
    have hlp := Heap.lt_size (N p hp).1
    rcases hb' with e | e
    · exact ktu_ne 1 hlp e
    · exact Nat.ne_of_lt hlp e
  · rintro i h ⟨⟨old, he⟩, ⟨oi, hoi, hic, HD⟩, _⟩ b hb
    have hb' : b = s.heap.objs.size + 1 ∨ b = s.heap.objs.size := by simpa using hb
    rcases hb' with rfl | rfl
    · exact ⟨_, he, rfl⟩
    · exact ⟨oi, hoi, by simp [sq, HD]⟩
  · intro b hb
    have hb' : b = s.heap.objs.size + 1 ∨ b = s.heap.objs.size ∨ b = l := by simpa using hb
    rcases hb' with rfl | rfl | rfl
    · exact .inl (by simp)
    · exact .inl (by simp)
    · exact .inr hsrc
  · exact ⟨⟨.none, hE⟩, hI, hl.at fun o e => hkk l o e⟩
  · obtain ⟨T, vals, rfl, ⟨t, x, hx, rfl⟩, hT⟩ := hP
    exact turn i x T t c u own h tk (by simpa using hx) hT hI ho F₁ N₁
  · exact fin c u h tk (by simpa using hI) F₁ N₁
end
def PolysL (g : Heap) (T : Ledger) : List Value → List Poly → Prop
  | [], [] => True
  | v :: vs, p :: ps => PolyL g T v p ∧ PolysL g T vs ps
  | _, _ => False
def Seqs (T : Ledger) : Prop := ∀ e ∈ T, sq e = true
theorem Seqs.filt (T : Ledger) : Seqs (T.filter sq) := fun e he => (List.mem_filter.mp he).2
theorem Seqs.append {T U : Ledger} (x : Seqs T) (y : Seqs U) : Seqs (T ++ U) := fun p hp => by
  rcases List.mem_append.mp hp with h | h
  · exact x p h
  · exact y p h
section
variable {g h : Heap} {L : Addr} {T U news : Ledger} {v : Value}
theorem RatL.filt {q : Q2} (x : RatL g T v q) : RatL g (T.filter sq) v q := by
  rcases x with x | ⟨t, a, b, o, e, hm, hc, n, hd⟩
  · exact .inl x
  · exact .inr ⟨t, a, b, o, e, List.mem_filter.mpr ⟨hm, sq_seq hd⟩, hc, n, hd⟩
theorem RatsL.filt : ∀ {vs : List Value} {p : List Q2}, RatsL g T vs p → RatsL g (T.filter sq) vs p
  | [], [], _ => trivial
  | _ :: _, _ :: _, x => ⟨x.1.filt, RatsL.filt x.2⟩
  | [], _ :: _, x => x.elim
  | _ :: _, [], x => x.elim
theorem FacL.filt : ∀ {vs : List Value} {p : List (List Int)}, FacL T vs p → FacL (T.filter sq) vs p
  | [], [], _ => trivial
  | _ :: _, _ :: _, x => ⟨let ⟨l, n, us, e, hm, hi⟩ := x.1; ⟨l, n, us, e, List.mem_filter.mpr ⟨hm, sq_seq (n := n) rfl⟩, hi⟩, FacL.filt x.2⟩
  | [], _ :: _, x => x.elim
  | _ :: _, [], x => x.elim
theorem PolyL.filt {p : Poly} (x : PolyL g T v p) : PolyL g (T.filter sq) v p := by
  obtain ⟨l, n, vs, e, hm, hr⟩ := x
  exact ⟨l, n, vs, e, List.mem_filter.mpr ⟨hm, sq_seq (n := n) rfl⟩, hr.filt⟩
theorem PolysL.mono : ∀ {vs : List Value} {p : List Poly}, PolysL g T vs p → (∀ e ∈ T, e ∈ U) → PolysL g U vs p
  | [], [], _, _ => trivial
  | _ :: _, _ :: _, x, k => ⟨x.1.mono k, PolysL.mono x.2 k⟩
  | [], _ :: _, x, _ => x.elim
  | _ :: _, [], x, _ => x.elim
theorem PolysL.append : ∀ {vs ws : List Value} {p q : List Poly}, PolysL g T vs p → PolysL g T ws q → PolysL g T (vs ++ ws) (p ++ q)
  | [], _, [], _, _, y => y
  | _ :: _, _, _ :: _, _, x, y => ⟨x.1, PolysL.append x.2 y⟩
  | [], _, _ :: _, _, x, _ => x.elim
  | _ :: _, _, [], _, x, _ => x.elim
theorem PolysL.get : ∀ {vs : List Value} {p : List Poly} {i : Nat} {v : Value}, PolysL g T vs p → vs[i]? = some v → ∃ q, p[i]? = some q ∧ PolyL g T v q
  | _ :: _, _ :: _, 0, _, x, e => by cases e; exact ⟨_, rfl, x.1⟩
  | _ :: _, _ :: _, i + 1, _, x, e => by
    have := PolysL.get (i := i) x.2 (by simpa using e)
    simpa using this
  | [], _, _, _, _, e => by simp at e
  | _ :: _, [], _, _, x, _ => x.elim
theorem PolysL.length : ∀ {vs : List Value} {p : List Poly}, PolysL g T vs p → vs.length = p.length
  | [], [], _ => rfl
  | _ :: _, _ :: _, x => congrArg (· + 1) (PolysL.length x.2)
  | [], _ :: _, x => x.elim
  | _ :: _, [], x => x.elim
/-- a cell is no list and no tuple -/
theorem cell_ne {c : Addr} {o : Obj} {v₀ : Option Value} (N : News g L h news) (hm : (c, o) ∈ news) (hd : o.data = .cell v₀) {e : Addr × Obj} (he : e ∈ news) (hs : sq e = true) : e.1 ≠ c := by
  intro q
  have h1 := (N _ hm).1
  have h2 := (N _ he).1
  rw [q] at h2
  rw [show (c, o).1 = c from rfl, h2] at h1
  have h3 := Option.some.inj h1
  unfold sq at hs
  rw [h3, hd] at hs
  cases hs
end
section
variable {prog : Program} {w : World} {A : Around} {E : Value → Shared → Prop} {s : Shared} {h₀ : Heap} {L D : Addr} {m : Str → Option Value} {news : Ledger} {vs : List Value} {n : Nat} {v : Value}
theorem append_R {Q : Value → Shared → Prop} (rest : Ledger) (F : Fr h₀ L s.heap m) (N : News h₀ L s.heap news) (hm : (D, lstO vs n) ∈ news) (sub : ∀ e ∈ rest, e ∈ news) (hT : ∀ p ∈ rest, p.1 ≠ D) (hz : vs.length ≤ 16384)
    (h : ∀ h', Fr h₀ L h' m → News h₀ L h' ((D, lstO (vs ++ [v]) (n + 1)) :: rest) → Q .none { s with heap := h' }) : wpAny (model prog w) A (call (.builtin "list.append") [.ref D, v]) Q E s := by
  have N' : News h₀ L s.heap ((D, listOf vs.toArray n) :: rest) := fun p hp => by
    rcases List.mem_cons.mp hp with rfl | hp
    · exact N _ hm
    · exact N _ (sub p hp)
  have e : vs.toArray.push v = (vs ++ [v]).toArray := by simp
  refine append_K F N' (Upd.head hT) (fun h' F' N'' => h h' F' ?_) (by rw [List.size_toArray, sizeLine_eq]; omega)
  rw [e] at N''
  exact N''
end
structure AS where
  vP : List Value
  nP : Nat
  oB : Obj
  T : Ledger
theorem loopA_init {g h : Heap} {L D' lP lF lh D1 lw t1 lf lr nt : Addr} {oC oA oB o0 o1 ow : Obj} {vF vh vf vr : List Value} {nF nh nf nr : Nat} {Tf M U1 U0 : Ledger}
    (N : News g L h ((D', o0) :: (lP, lstO [] 0) :: (lF, lstO vF nF) :: (lh, lstO vh nh) :: (D1, o1) :: (lw, ow) :: (L + 1, oC) :: (L + 1 + 1 + 1, oA) :: (L + 1 + 1, oB) :: (t1, tupO #[.ref lf, .ref lr] nt) :: (lf, lstO vf nf) :: (lr, lstO vr nr) :: (Tf ++ M ++ U1 ++ U0)))
    (l : lF < lP ∧ lh < lP ∧ D1 < lP ∧ lw < lP ∧ L + 1 < lP ∧ L + 1 + 1 + 1 < lP ∧ L + 1 + 1 < lP ∧ t1 < lP ∧ lf < lP ∧ lr < lP ∧ AllLt lP (Tf ++ M ++ U1 ++ U0)) :
    ∃ P F H T0 vF2 nF2 vh2 nh2, P = lP ∧ F = lF ∧ H = lh ∧ (vF2 = vF ∧ vh2 = vh) ∧ (∀ vs p, RatsL g U1 vs p → RatsL g T0 vs p) ∧ (∀ vs p, RatsL g U0 vs p → RatsL g T0 vs p) ∧ (∀ vs p, FacL Tf vs p → FacL T0 vs p) ∧ (F ≠ P ∧ H ≠ P ∧ lf ≠ P ∧ lr ≠ P ∧ L + 1 ≠ P ∧ L + 1 + 1 ≠ P ∧ L + 1 + 1 + 1 ≠ P) ∧ (∀ e ∈ T0, e.1 ≠ P) ∧ Seqs T0 ∧
      News g L h ((L + 1 + 1, oB) :: (P, lstO [] 0) :: (L + 1, oC) :: (L + 1 + 1 + 1, oA) :: (lf, lstO vf nf) :: (lr, lstO vr nr) :: (H, lstO vh2 nh2) :: (F, lstO vF2 nF2) :: (T0 ++ [])) := by
  refine ⟨lP, lF, lh, (Tf ++ U1 ++ U0).filter sq, vF, nF, vh, nh, rfl, rfl, rfl, ⟨rfl, rfl⟩, fun vs p x => (x.mono fun e he => by first | walk_at "my mem" | simp [he]).filt, fun vs p x => (x.mono fun e he => by first | walk_at "my mem" | simp [he]).filt, fun vs p x => (x.mono fun e he => by first | walk_at "my mem" | simp [he]).filt, ⟨Nat.ne_of_lt l.1, Nat.ne_of_lt l.2.1, Nat.ne_of_lt l.2.2.2.2.2.2.2.2.1, Nat.ne_of_lt l.2.2.2.2.2.2.2.2.2.1, Nat.ne_of_lt l.2.2.2.2.1, Nat.ne_of_lt l.2.2.2.2.2.2.1, Nat.ne_of_lt l.2.2.2.2.2.1⟩, fun e he => ?_, Seqs.filt _, fun p hp => N p ?_⟩
  · have he' := (List.mem_filter.mp he).1
    refine Nat.ne_of_lt (AllLt.mem l.2.2.2.2.2.2.2.2.2.2 e ?_)
    simp only [List.mem_append] at he' ⊢
    rcases he' with (he' | he') | he' <;> simp [he']
  · simp only [List.mem_cons, List.mem_append, List.mem_filter, List.not_mem_nil, or_false] at hp ⊢
    rcases hp with hp | hp | hp | hp | hp | hp | hp | hp | ⟨(hp | hp) | hp, _⟩ <;> first | walk_at "my or" | simp [hp]
structure BS where
  lo : Addr
  no : Nat
  vo : List Value
  ws : List Int
theorem otherAt_succ {facs : List (List Int)} {k j : Nat} {f : List Int} (h : facs[j]? = some f) : otherAt facs k (j + 1) = otherStep k (otherAt facs k j) (j, f) := by
  unfold otherAt
  have := enumL_get facs 0 j h
  rw [Nat.zero_add] at this
  rw [List.take_add_one, this, Option.toList_some, List.foldl_append]
  rfl
theorem otherAt_full {facs : List (List Int)} {k : Nat} : otherAt facs k facs.length = otherAt facs k facs.length := rfl
theorem one_init {g h : Heap} {L l : Addr} {t : Tok} {rest : Ledger} (N : News g L h ((l, lstO [.int 1 t] 0) :: rest)) : ∃ lw vw, lw = l ∧ News g L h ((lw, lstO vw 0) :: rest) ∧ IntsAre vw [1] :=
  ⟨l, _, rfl, N, .cons _ _ .nil⟩
theorem one_at {g h : Heap} {L l d : Addr} {a b : Tok} {rest : Ledger} (N : News g L h ((l, lstO [.ref d] 0) :: (d, tupO #[.int 1 a, .int 1 b] 0) :: rest)) : PolyAt h (.ref l) [(1, 1)] :=
  ⟨l, 0, _, rfl, (N _ (.head _)).1, RatAt.ofNews N (.tail _ (.head _)) rfl, trivial⟩
section
variable {w : World} {f : Addr} {n : Nat} {vals : List Value} {P : Heap → Prop} {A : Around} {s : Shared} {mean : ExcName → Option Value} {mg mb : Str → Option Value} {h₀ : Heap} {L : Addr} {m : Str → Option Value} {news : Ledger} {env : Env} {Q E : Value → Shared → Prop}
theorem Sp.useD2 {p q : List Q2} (S : Sp w f n vals P (fun b v h => PairNew b h v p q)) (r : Rm A (n + 1)) (X : (hd.heap_1 w.params).In h₀) (T : Top hv (looseW hv []) mean mg mb h₀) (F : Fr h₀ L s.heap m) (N : News h₀ L s.heap news) (hP : P s.heap)
    (k : ∀ t n lq nq vq lr nr vr U h' tk', Tups U → RatsL h₀ U vq p → RatsL h₀ U vr q → (∀ e ∈ news, e.1 ≠ lr) → Fr h₀ L h' m → News h₀ L h' ((t, tupO #[.ref lq, .ref lr] n) :: (lq, lstO vq nq) :: (lr, lstO vr nr) :: (news ++ U)) → Q (.ref t) { s with heap := h', toks := tk' }) :
    wpAny (model PySem.Challenge.rw_sa0081_01.row.prog w) (A.deeper env) (call (.ref f) vals) Q E s := by
  refine S.use2 r X T F N hP fun v h' tk' st st0 F' N' hR => ?_
  obtain ⟨t, x, y, n, rfl, hb, e, hx, hy⟩ := hR
  obtain ⟨lq, nq, vq, U1, rfl, hU1, rq, hbq, N1⟩ := hx.led st0 F' N'
  obtain ⟨lr, nr, vr, U2, rfl, hU2, rr, hbr, N2⟩ := hy.led st0 F' N1
  refine k t n lq nq vq lr nr vr (U1 ++ U2) h' tk' (hU1.append hU2) (rq.mono fun _ h => List.mem_append_left _ h) (rr.mono fun _ h => List.mem_append_right _ h) (fun e he => ne_of_none ⟨_, (N e he).1⟩ hbr) F' fun p hp => ?_
  simp only [List.mem_cons, List.mem_append] at hp
  rcases hp with rfl | rfl | rfl | hp | hp | hp
  · exact ⟨e, ns_ne_seq F' e rfl, none_down st0 hb⟩
  · exact N2 _ (by simp)
  · exact N2 _ (by simp)
  · exact N2 _ (by first | walk_at "my mem" | simp [hp])
  · exact N2 _ (by first | walk_at "my mem" | simp [hp])
  · exact N2 _ (by first | walk_at "my mem" | simp [hp])
end
section
variable {prog : Program} {w : World} {A : Around} {E : Value → Shared → Prop} {s : Shared} {h₀ : Heap} {L lP lr : Addr} {m : Str → Option Value} {news : Ledger} {vP vr : List Value} {nP nr : Nat}
/-- parts.append(part): the new part and its ratios stay in the ledger -/
theorem appendA {U : Ledger} {p : Poly} {Q : Value → Shared → Prop} (fixed : Ledger) (F : Fr h₀ L s.heap m) (N : News h₀ L s.heap news) (hmP : (lP, lstO vP nP) ∈ news) (hmR : (lr, lstO vr nr) ∈ news) (hU : Tups U) (hUs : ∀ e ∈ U, e ∈ news) (rr : RatsL h₀ U vr p)
    (hfix : ∀ e ∈ fixed, e ∈ news) (hfixP : ∀ e ∈ fixed, e.1 ≠ lP) (hrP : lr ≠ lP) (hz : vP.length ≤ 16384)
    (h : ∀ h' new v, Fr h₀ L h' m → News h₀ L h' ((lP, lstO (vP ++ [v]) (nP + 1)) :: (fixed ++ new)) → Seqs new → (∀ e ∈ new, e.1 ≠ lP) → PolyL h₀ new v p → Q .none { s with heap := h' }) :
    wpAny (model prog w) A (call (.builtin "list.append") [.ref lP, .ref lr]) Q E s := by
  have hnew : ∀ e ∈ ((lr, lstO vr nr) :: U).filter sq, e ∈ news ∧ e.1 ≠ lP := by
    intro e he
    have he' := (List.mem_filter.mp he).1
    rcases List.mem_cons.mp he' with rfl | he'
    · exact ⟨hmR, hrP⟩
    · exact ⟨hUs e he', hU.ne N hmP hUs e he'⟩
  refine append_R (fixed ++ ((lr, lstO vr nr) :: U).filter sq) F N hmP (fun e he => ?_) (fun e he => ?_) hz fun h' F' N' => h h' _ _ F' N' (Seqs.filt _) (fun e he => (hnew e he).2) ?_
  · rcases List.mem_append.mp he with he | he
    · exact hfix e he
    · exact (hnew e he).1
  · rcases List.mem_append.mp he with he | he
    · exact hfixP e he
    · exact (hnew e he).2
  · exact PolyL.filt ⟨lr, nr, vr, rfl, .head _, rr.mono fun e he => .tail _ he⟩
end
theorem partsTake {parts : List Poly} {k : Nat} {r : Poly} (h : parts[k]? = some r) : parts.take (k + 1) = parts.take k ++ [r] := by
  rw [List.take_add_one, h]
  rfl
structure CS where
  vt : Value
  vb : Value
  oB : Obj
  oA : Obj
  T : Ledger
def tl7 : List Stmt → List Stmt
  | _ :: _ :: _ :: _ :: _ :: _ :: _ :: l => l
  | _ => []
def LawTail (w : World) (qual : Str) (scope : Scope) (body : List Stmt) : Prop :=
  ∀ (dp un : Nat) (fr : Option (List Env)) (gd : Option (List Code)) (f : Addr) (cdv : Value) (s : Shared) (mean : ExcName → Option Value) (mg mb : Str → Option Value) (L : Addr) (h₁ : Heap) (tk : Nat)
    (facs : List (List Int)) (roots : List Int) (full : Poly) (parts : List Poly) (tot : Nat → Poly) (hp : Poly) (back : Nat → Poly) (oA oB oC : Obj) (lP lf lr lh lF : Addr) (nP nf nr nh nF : Nat) (vP vf vr vh vF : List Value) (T : Ledger) (u : Str → Option Value),
    Rm { handled := none, depth := dp, frames := fr, guards := gd, units := un } 20 → (hd.heap_1 w.params).In s.heap → Top hv (looseW hv []) mean mg mb s.heap → LawPure facs roots full parts tot → HPure facs full parts hp back →
    (∃ v0, oB.data = .cell v0) → oA.data = .cell none → PolysL s.heap T vP parts → RatsL s.heap T vh hp → RatsL s.heap T vF full → FacL T vf facs → IntsAre vr roots → Seqs T →
    Fr s.heap L h₁ (over [(Str.ofString "factors", .ref lf), (Str.ofString "roots_here", .ref lr), (Str.ofString "h", .ref lh), (Str.ofString "full", .ref lF), (Str.ofString "parts", .ref lP)] u) →
    News s.heap L h₁ ((L + 1 + 1, oB) :: (lP, lstO vP nP) :: (L + 1, oC) :: (L + 1 + 1 + 1, oA) :: (lf, lstO vf nf) :: (lr, lstO vr nr) :: (lh, lstO vh nh) :: (lF, lstO vF nF) :: T) →
    wpAny (model PySem.Challenge.rw_sa0081_01.row.prog w) (Around.deeper { handled := none, depth := dp, frames := fr, guards := gd, units := un } (envOfC qual scope L f cdv)) (execs (tl7 body) (envOfC qual scope L f cdv))
      (fun fl s' => Ret s (fun v _ => v = .bool true) (match fl with | .ret v => v | _ => .none) s') NoE { s with heap := h₁, toks := tk }
theorem LawTail.of {w : World} {f : Addr} {name qual : Str} {params : Arguments} {body : List Stmt} {scope : Scope} {dV kV doc pm cdv ct oc : Value} {an od : Option Addr} {osl : Array (Option Value)}
    (ho : (hd.heap_1 w.params).lookup f = some ⟨oc, od, .func (fnOf name qual params body scope dV kV doc pm an cdv ct), osl⟩) (h : LawTail w qual scope body) :
    ∃ name qual params body scope dV kV doc pm cdv ct oc an od osl, (hd.heap_1 w.params).lookup f = some ⟨oc, od, .func (fnOf name qual params body scope dV kV doc pm an cdv ct), osl⟩ ∧ LawTail w qual scope body :=
  ⟨name, qual, params, body, scope, dV, kV, doc, pm, cdv, ct, oc, an, od, osl, ho, h⟩
theorem loopC_init {g h : Heap} {L D' l0 l1 lP lf lr lh lF : Addr} {oC oA oB o0 : Obj} {vF vh vf vr vP : List Value} {nF nh nf nr nP : Nat} {T : Ledger}
    (N : News g L h ((D', o0) :: (l0, lstO [] 0) :: (l1, lstO [] 0) :: (L + 1 + 1, oB) :: (lP, lstO vP nP) :: (L + 1, oC) :: (L + 1 + 1 + 1, oA) :: (lf, lstO vf nf) :: (lr, lstO vr nr) :: (lh, lstO vh nh) :: (lF, lstO vF nF) :: T)) :
    ∃ vt vb T2, vt = .ref l1 ∧ vb = .ref l0 ∧ PolyL g (T ++ T2) vt [] ∧ PolyL g (T ++ T2) vb [] ∧ Seqs T2 ∧
      News g L h ((L + 1 + 1, oB) :: (L + 1 + 1 + 1, oA) :: (L + 1, oC) :: (lP, lstO vP nP) :: (lf, lstO vf nf) :: (lr, lstO vr nr) :: (lh, lstO vh nh) :: (lF, lstO vF nF) :: (T ++ T2)) := by
  refine ⟨_, _, [(l1, lstO [] 0), (l0, lstO [] 0)], rfl, rfl, ⟨l1, 0, [], rfl, by simp, trivial⟩, ⟨l0, 0, [], rfl, by simp, trivial⟩, ?_, fun p hp => N p ?_⟩
  · intro e he
    simp only [List.mem_cons, List.not_mem_nil, or_false] at he
    rcases he with rfl | rfl <;> rfl
  · simp only [List.mem_cons, List.mem_append, List.not_mem_nil, or_false] at hp ⊢
    rcases hp with hp | hp | hp | hp | hp | hp | hp | hp | hp | hp | hp <;> first | walk_at "my or" | simp [hp]
theorem loopD_init {g h : Heap} {L D b1 t1 x1 x2 x3 x4 x5 lP lf lr lh lF : Addr} {o1 o2 o3 o4 o5 oA oB oC : Obj} {vS vb vt vP vf vr vh vF : List Value} {nb nt nP nf nr nh nF : Nat} {T T2 own U4 U3 U2 U1 U0 : Ledger} {pt pb : Poly}
    (N : News g L h ((D, lstO vS 0) :: (b1, lstO vb nb) :: (x1, o1) :: (x2, o2) :: (x3, o3) :: (x4, o4) :: (x5, o5) :: (t1, lstO vt nt) :: (L + 1 + 1 + 1, oA) :: (L + 1 + 1, oB) :: (L + 1, oC) :: (lP, lstO vP nP) :: (lf, lstO vf nf) :: (lr, lstO vr nr) :: (lh, lstO vh nh) :: (lF, lstO vF nF) :: (T ++ T2 ++ own ++ U4 ++ U3 ++ U2 ++ U1 ++ U0)))
    (rt : RatsL g U4 vt pt) (rb : RatsL g U0 vb pb) :
    ∃ lS Tn, lS = D ∧ PolyL g (T ++ (T2 ++ Tn)) (.ref t1) pt ∧ PolyL g (T ++ (T2 ++ Tn)) (.ref b1) pb ∧ Seqs Tn ∧
      News g L h ((lS, lstO vS 0) :: (L + 1 + 1 + 1, oA) :: (L + 1 + 1, oB) :: (L + 1, oC) :: (lP, lstO vP nP) :: (lf, lstO vf nf) :: (lr, lstO vr nr) :: (lh, lstO vh nh) :: (lF, lstO vF nF) :: (T ++ (T2 ++ Tn) ++ own)) := by
  refine ⟨D, ((t1, lstO vt nt) :: (b1, lstO vb nb) :: (U4 ++ U0)).filter sq, rfl, ?_, ?_, Seqs.filt _, fun p hp => N p ?_⟩
  · exact (PolyL.filt (T := (t1, lstO vt nt) :: (b1, lstO vb nb) :: (U4 ++ U0)) ⟨t1, nt, vt, rfl, .head _, rt.mono fun e he => by first | walk_at "my mem" | simp [he]⟩).mono fun e he => by simp only [List.mem_append]; exact .inr (.inr he)
  · exact (PolyL.filt (T := (t1, lstO vt nt) :: (b1, lstO vb nb) :: (U4 ++ U0)) ⟨b1, nb, vb, rfl, .tail _ (.head _), rb.mono fun e he => by first | walk_at "my mem" | simp [he]⟩).mono fun e he => by simp only [List.mem_append]; exact .inr (.inr he)
  · simp only [List.mem_cons, List.mem_append, List.mem_filter] at hp ⊢
    rcases hp with hp | hp | hp | hp | hp | hp | hp | hp | hp | (hp | hp | ⟨hp | hp | hp | hp, _⟩) | hp <;> first | walk_at "my or" | simp [hp]
theorem take_got {k j : Nat} {vP : List Value} {v : Value} (h : (vP.take ((k : Int) + 1).toNat)[j]? = some v) : j ≤ k ∧ vP[j]? = some v := by
  have e : ((k : Int) + 1).toNat = k + 1 := by omega
  rw [e, List.getElem?_take] at h
  split at h
  · exact ⟨by omega, h⟩
  · cases h
section
variable {w : World} {f : Addr} {n : Nat} {vals : List Value} {P : Heap → Prop} {A : Around} {s : Shared} {mean : ExcName → Option Value} {mg mb : Str → Option Value} {h₀ : Heap} {L : Addr} {m : Str → Option Value} {news : Ledger} {env : Env} {Q E : Value → Shared → Prop}
/-- what a new or own ratio comes to, in the ledger -/
def GotG (h₀ h : Heap) (L : Addr) (news : Ledger) (v : Value) (q : Q2) : Prop := (∃ t o, v = .ref t ∧ RatObj o q ∧ (∀ e ∈ news, e.1 ≠ t) ∧ News h₀ L h ((t, o) :: news)) ∨ (v = .ref 42 ∧ q = (0, 1))
theorem Sp.useG {q : Q2} (S : Sp w f n vals P (fun b v h => RatG b h v q)) (r : Rm A (n + 1)) (X : (hd.heap_1 w.params).In h₀) (T : Top hv (looseW hv []) mean mg mb h₀) (F : Fr h₀ L s.heap m) (N : News h₀ L s.heap news) (hP : P s.heap)
    (k : ∀ v h' tk', GotG h₀ h' L news v q → Fr h₀ L h' m → News h₀ L h' news → Q v { s with heap := h', toks := tk' }) :
    wpAny (model PySem.Challenge.rw_sa0081_01.row.prog w) (A.deeper env) (call (.ref f) vals) Q E s := by
  refine S.use2 r X T F N hP fun v h' tk' st st0 F' N' hR => k v h' tk' ?_ F' N'
  rcases hR with ⟨t, a, b, rfl, hb, o, e, hc, n, hd⟩ | hR
  · refine .inl ⟨t, o, rfl, ⟨hc, a, b, n, hd⟩, fun e he => ne_of_none ⟨_, (N e he).1⟩ hb, fun p hp => ?_⟩
    rcases List.mem_cons.mp hp with rfl | hp
    · exact ⟨e, ns_ne_seq F' e hd, none_down st0 hb⟩
    · exact N' p hp
  · exact .inr hR
end
theorem News.front {g h : Heap} {L : Addr} {X : Ledger} (pre U V : Ledger) (N : News g L h (pre ++ (X ++ U ++ V))) : News g L h X := fun p hp =>
  N p (List.mem_append_right _ (List.mem_append_left _ (List.mem_append_left _ hp)))
theorem LawBody.of2 {w : World} {f : Addr} {name qual : Str} {params : Arguments} {body : List Stmt} {scope : Scope} {dV kV doc pm cdv ct oc : Value} {an od : Option Addr} {osl : Array (Option Value)}
    (ho : (hd.heap_1 w.params).lookup f = some ⟨oc, od, .func (fnOf name qual params body scope dV kV doc pm an cdv ct), osl⟩) (h : Stop (LawTail w qual scope body) → LawBody w qual scope body) :
    ∃ name qual params body scope dV kV doc pm cdv ct oc an od osl, (hd.heap_1 w.params).lookup f = some ⟨oc, od, .func (fnOf name qual params body scope dV kV doc pm an cdv ct), osl⟩ ∧ (Stop (LawTail w qual scope body) → LawBody w qual scope body) :=
  ⟨name, qual, params, body, scope, dV, kV, doc, pm, cdv, ct, oc, an, od, osl, ho, h⟩
def nrm (D n : Int) : Q2 := (n.fdiv (Int.gcd n D), D.fdiv (Int.gcd n D))
theorem nrm_spec (D n : Int) (hD : 0 < D) : ∃ g a b : Int, 0 < g ∧ n = g * a ∧ D = g * b ∧ 0 < b ∧ nrm D n = (a, b) := by
  have hg : 0 < Int.gcd n D := Int.gcd_pos_of_ne_zero_right _ (by omega)
  have hg' : (0 : Int) < (Int.gcd n D : Int) := by omega
  obtain ⟨a, ha⟩ := Int.gcd_dvd_left (a := n) (b := D)
  obtain ⟨b, hb⟩ := Int.gcd_dvd_right (a := n) (b := D)
  refine ⟨Int.gcd n D, a, b, hg', ha, hb, ?_, ?_⟩
  · rcases Int.lt_trichotomy b 0 with h | h | h
    · exfalso
      have : (Int.gcd n D : Int) * b < 0 := Int.mul_neg_of_pos_of_neg hg' h
      omega
    · subst h
      simp at hb
      omega
    · exact h
  · have e1 : n.fdiv (Int.gcd n D) = a := by
      rw [Int.fdiv_eq_ediv_of_nonneg _ (Int.le_of_lt hg')]
      exact Int.ediv_eq_of_eq_mul_right (by omega) ha
    have e2 : D.fdiv (Int.gcd n D) = b := by
      rw [Int.fdiv_eq_ediv_of_nonneg _ (Int.le_of_lt hg')]
      exact Int.ediv_eq_of_eq_mul_right (by omega) hb
    unfold nrm
    rw [e1, e2]
theorem ratO_nrm {D n : Int} (hD : 0 < D) : ratO n D = some (nrm D n) := by
  unfold ratO
  rw [if_neg (by omega)]
  simp only [if_pos hD]
  rfl
theorem nrm_mul {k D n : Int} (hk : 0 < k) (hD : 0 < D) : nrm (k * D) (k * n) = nrm D n := by
  have hg : 0 < Int.gcd n D := Int.gcd_pos_of_ne_zero_right _ (by omega)
  have e : (Int.gcd (k * n) (k * D) : Int) = k * Int.gcd n D := by
    rw [Int.gcd_mul_left]
    have hk' : (k.natAbs : Int) = k := by omega
    rw [Int.natCast_mul, hk']
  unfold nrm
  rw [e]
  have h0 : (0 : Int) ≤ k * (Int.gcd n D : Int) := Int.mul_nonneg (by omega) (by omega)
  rw [Int.fdiv_eq_ediv_of_nonneg _ h0, Int.fdiv_eq_ediv_of_nonneg _ h0, Int.fdiv_eq_ediv_of_nonneg _ (by omega), Int.fdiv_eq_ediv_of_nonneg _ (by omega), Int.mul_ediv_mul_of_pos _ _ hk, Int.mul_ediv_mul_of_pos _ _ hk]
theorem ok_of_mul {g a n : Int} (hg : 0 < g) (e : n = g * a) (h : okI n = true) : okI a = true := by
  have h1 := okI.lt h
  unfold okI
  refine decide_eq_true ?_
  have : n.natAbs = g.natAbs * a.natAbs := by rw [e, Int.natAbs_mul]
  have h2 : 1 ≤ g.natAbs := by omega
  have h3 : a.natAbs ≤ g.natAbs * a.natAbs := Nat.le_mul_of_pos_left _ h2
  omega
theorem ok_nrm {D n : Int} (hD : 0 < D) (h1 : okI n = true) (h2 : okI D = true) : okR (nrm D n) = true := by
  obtain ⟨g, a, b, hg, ha, hb, _, e⟩ := nrm_spec D n hD
  rw [e]
  unfold okR
  rw [ok_of_mul hg ha h1, ok_of_mul hg hb h2]
  rfl
theorem radd_nrm {D n E m : Int} (hD : 0 < D) (hE : 0 < E) (h1 : okI n = true) (h2 : okI D = true) (h3 : okI m = true) (h4 : okI E = true) : raddO (nrm D n) (nrm E m) = some (nrm (D * E) (n * E + m * D)) := by
  obtain ⟨g, a, b, hg, ha, hb, hb0, e⟩ := nrm_spec D n hD
  obtain ⟨g', a', b', hg', ha', hb', hb0', e'⟩ := nrm_spec E m hE
  have o1 := ok_nrm hD h1 h2
  have o2 := ok_nrm hE h3 h4
  rw [e] at o1 ⊢
  rw [e'] at o2 ⊢
  unfold raddO
  rw [o1, o2]
  simp only [Bool.and_self, if_true]
  rw [ratO_nrm (Int.mul_pos hb0 hb0')]
  have q := nrm_mul (k := g * g') (D := b * b') (n := a * b' + a' * b) (Int.mul_pos hg hg') (Int.mul_pos hb0 hb0')
  rw [← q]
  subst ha hb ha' hb'
  congr 2
  · rw [Int.mul_assoc, Int.mul_assoc]
    congr 1
    rw [← Int.mul_assoc, ← Int.mul_assoc, Int.mul_comm g' b]
  · rw [Int.mul_add]
    congr 1
    · rw [Int.mul_assoc, Int.mul_assoc]
      congr 1
      rw [← Int.mul_assoc, ← Int.mul_assoc, Int.mul_comm g' a]
    · rw [Int.mul_comm g g', Int.mul_assoc, Int.mul_assoc]
      congr 1
      rw [← Int.mul_assoc, ← Int.mul_assoc, Int.mul_comm g a']
theorem rmul_nrm {D n E m : Int} (hD : 0 < D) (hE : 0 < E) (h1 : okI n = true) (h2 : okI D = true) (h3 : okI m = true) (h4 : okI E = true) : rmulO (nrm D n) (nrm E m) = some (nrm (D * E) (n * m)) := by
  obtain ⟨g, a, b, hg, ha, hb, hb0, e⟩ := nrm_spec D n hD
  obtain ⟨g', a', b', hg', ha', hb', hb0', e'⟩ := nrm_spec E m hE
  have o1 := ok_nrm hD h1 h2
  have o2 := ok_nrm hE h3 h4
  rw [e] at o1 ⊢
  rw [e'] at o2 ⊢
  unfold rmulO
  rw [o1, o2]
  simp only [Bool.and_self, if_true]
  rw [ratO_nrm (Int.mul_pos hb0 hb0')]
  have q := nrm_mul (k := g * g') (D := b * b') (n := a * a') (Int.mul_pos hg hg') (Int.mul_pos hb0 hb0')
  rw [← q]
  subst ha hb ha' hb'
  congr 2
  · rw [Int.mul_assoc, Int.mul_assoc]
    congr 1
    rw [← Int.mul_assoc, ← Int.mul_assoc, Int.mul_comm g' b]
  · rw [Int.mul_assoc, Int.mul_assoc]
    congr 1
    rw [← Int.mul_assoc, ← Int.mul_assoc, Int.mul_comm g' a]
theorem nrm_one (n : Int) : nrm 1 n = (n, 1) := by simp [nrm, Int.fdiv_one]
theorem nrm_zero {D : Int} (hD : 0 < D) : nrm D 0 = (0, 1) := by
  have := nrm_mul (k := D) (D := 1) (n := 0) hD (by decide)
  rw [Int.mul_one, Int.mul_zero] at this
  rw [this, nrm_one]
theorem radd_same {D n m : Int} (hD : 0 < D) (h1 : okI n = true) (h2 : okI D = true) (h3 : okI m = true) : raddO (nrm D n) (nrm D m) = some (nrm D (n + m)) := by
  rw [radd_nrm hD hD h1 h2 h3 h2]
  have := nrm_mul (k := D) (D := D) (n := n + m) hD hD
  rw [← this]
  congr 2
  rw [Int.mul_add, Int.mul_comm n D, Int.mul_comm m D]
theorem rneg_nrm {D n : Int} (hD : 0 < D) : rnegO (nrm D n) = nrm D (-n) := by
  obtain ⟨g, a, b, hg, ha, hb, hb0, e⟩ := nrm_spec D n hD
  have hg1 : Int.gcd (-n) D = Int.gcd n D := Int.neg_gcd
  have hd : (Int.gcd n D : Int) ∣ n := Int.gcd_dvd_left ..
  have h0 : 0 ≤ (Int.gcd n D : Int) := by omega
  unfold nrm rnegO
  rw [hg1]
  dsimp only
  rw [Int.fdiv_eq_ediv_of_nonneg n h0, Int.fdiv_eq_ediv_of_nonneg (-n) h0, Int.neg_ediv_of_dvd hd]
  congr 1
  omega
theorem nrm_fst_zero {D n : Int} (hD : 0 < D) : (nrm D n).1 = 0 ↔ n = 0 := by
  obtain ⟨g, a, b, hg, ha, hb, hb0, e⟩ := nrm_spec D n hD
  rw [e]
  constructor
  · intro h
    have : a = 0 := h
    rw [ha, this, Int.mul_zero]
  · intro h
    rw [h] at ha
    rcases Int.mul_eq_zero.mp ha.symm with h' | h'
    · omega
    · exact h'
theorem rdiv_one {D n : Int} (hD : 0 < D) (h1 : okI n = true) (h2 : okI D = true) : rdivO (nrm D n) (1, 1) = some (nrm D n) := by
  have o1 := ok_nrm hD h1 h2
  obtain ⟨g, a, b, hg, ha, hb, hb0, e⟩ := nrm_spec D n hD
  rw [e] at o1 ⊢
  unfold rdivO
  rw [o1]
  have : okR (1, 1) = true := by decide
  rw [this]
  simp only [Bool.and_self, if_true, Int.mul_one]
  rw [ratO_nrm hb0]
  have q := nrm_mul (k := g) (D := b) (n := a) hg hb0
  rw [← q, ← ha, ← hb, e]
def PP (D : Int) (l : List Int) : List Q2 := l.map (nrm D)
def OkL (l : List Int) : Prop := ∀ x ∈ l, okI x = true
theorem okI_zero : okI 0 = true := by decide
theorem OkL.getD {l : List Int} (h : OkL l) (i : Nat) : okI (l.getD i 0) = true := by
  rcases Nat.lt_or_ge i l.length with hi | hi
  · have : l.getD i 0 = l[i] := by simp [List.getD, hi]
    rw [this]
    exact h _ (List.getElem_mem hi)
  · have : l.getD i 0 = 0 := by simp [List.getD, List.getElem?_eq_none hi]
    rw [this]
    exact okI_zero
theorem PP_length (D : Int) (l : List Int) : (PP D l).length = l.length := by simp [PP]
theorem PP_getD {D : Int} (hD : 0 < D) (l : List Int) (i : Nat) : (PP D l).getD i (0, 1) = nrm D (l.getD i 0) := by
  unfold PP
  rcases Nat.lt_or_ge i l.length with hi | hi
  · simp [List.getD, hi]
  · have e1 : l.getD i 0 = 0 := by simp [List.getD, List.getElem?_eq_none hi]
    rw [e1, nrm_zero hD]
    simp [List.getD, List.getElem?_eq_none hi]
theorem optMap_map {α β : Type} {g : α → Option β} {f : α → β} : ∀ {l : List α}, (∀ x ∈ l, g x = some (f x)) → optMap g l = some (l.map f)
  | [], _ => rfl
  | x :: r, h => by
    unfold optMap
    rw [h x (.head _), optMap_map fun y hy => h y (.tail _ hy)]
    rfl
theorem trimN_append (p q : List Q2) : ∀ k, k ≤ p.length → trimN (p ++ q) k = trimN p k
  | 0, _ => rfl
  | k + 1, h => by
    unfold trimN
    rw [List.getElem?_append_left (by omega)]
    split
    · exact trimN_append p q k (by omega)
    · rfl
theorem qtrim_PP {D : Int} (hD : 0 < D) (l : List Int) : qtrimP (PP D l) = PP D (itrim l) := by
  have key : ∀ n (l : List Int), l.length = n → qtrimP (PP D l) = PP D (itrim l) := by
    intro n
    induction n with
    | zero =>
      intro l hl
      obtain rfl := List.eq_nil_of_length_eq_zero hl
      rfl
    | succ n ih =>
      intro l hl
      rcases List.eq_nil_or_concat l with rfl | ⟨ms, x, hc⟩
      · simp at hl
      · rw [List.concat_eq_append] at hc
        subst hc
        have hms : ms.length = n := by simpa using hl
        have e0 : PP D (ms ++ [x]) = PP D ms ++ [nrm D x] := by simp [PP]
        have e1 : (PP D (ms ++ [x])).length = (PP D ms).length + 1 := by rw [e0]; simp
        have e2 : (PP D ms ++ [nrm D x])[(PP D ms).length]? = some (nrm D x) := by simp
        by_cases hx : x = 0
        · subst hx
          rw [itrim_zero, ← ih ms hms]
          unfold qtrimP
          rw [e1, e0, trimN, e2, if_pos (by
            show some (nrm D 0).1 = some 0
            rw [(nrm_fst_zero hD).mpr rfl]), trimN_append _ _ _ (Nat.le_refl _), List.take_append_of_le_length (trimN_le _ _)]
        · rw [itrim_ne ms hx]
          unfold qtrimP
          rw [e1, e0, trimN, e2, if_neg (by
            intro h
            have h0 := Option.some.inj h
            exact hx ((nrm_fst_zero hD).mp h0))]
          apply List.take_of_length_le
          simp
  exact key _ l rfl
def zadd (l m : List Int) : List Int := (List.range (max l.length m.length)).map fun i => l.getD i 0 + m.getD i 0
theorem qadd_PP {D : Int} (hD : 0 < D) (oD : okI D = true) {l m : List Int} (hl : OkL l) (hm : OkL m) : qaddO (PP D l) (PP D m) = some (PP D (itrim (zadd l m))) := by
  unfold qaddO
  rw [PP_length, PP_length, optMap_map (f := fun i => nrm D (l.getD i 0 + m.getD i 0)) (fun i _ => by
    rw [PP_getD hD, PP_getD hD]
    exact radd_same hD (hl.getD i) oD (hm.getD i))]
  have e : (List.range (max l.length m.length)).map (fun i => nrm D (l.getD i 0 + m.getD i 0)) = PP D (zadd l m) := by
    unfold PP zadd
    rw [List.map_map]
    rfl
  rw [e, Option.map_some, qtrim_PP hD]
def zneg (l : List Int) : List Int := l.map fun x => -x
theorem neg_PP {D : Int} (hD : 0 < D) (l : List Int) : (PP D l).map rnegO = PP D (zneg l) := by
  unfold PP zneg
  rw [List.map_map, List.map_map]
  apply List.map_congr_left
  intro x _
  exact rneg_nrm hD
theorem okI_neg {x : Int} (h : okI x = true) : okI (-x) = true := by
  unfold okI at h ⊢
  rw [Int.natAbs_neg]
  exact h
theorem OkL.neg {l : List Int} (h : OkL l) : OkL (zneg l) := by
  intro x hx
  obtain ⟨y, hy, rfl⟩ := List.mem_map.mp hx
  exact okI_neg (h y hy)
theorem qsub_PP {D : Int} (hD : 0 < D) (oD : okI D = true) {l m : List Int} (hl : OkL l) (hm : OkL m) : qsubO (PP D l) (PP D m) = some (PP D (itrim (zadd l (zneg m)))) := by
  unfold qsubO
  rw [neg_PP hD]
  exact qadd_PP hD oD hl hm.neg
def zscale (f : List Int) (n : Int) : List Int := if n = 0 then [] else f.map fun x => x * n
theorem qscale_PP {D n : Int} (hD : 0 < D) (oD : okI D = true) (on : okI n = true) {f : List Int} (hf : OkL f) : qscaleO (PP 1 f) (nrm D n) = some (PP D (zscale f n)) := by
  unfold qscaleO zscale
  by_cases h : n = 0
  · rw [if_pos ((nrm_fst_zero hD).mpr h), if_pos h]
    rfl
  · rw [if_neg (fun q => h ((nrm_fst_zero hD).mp q)), if_neg h]
    unfold PP
    have e : ∀ x ∈ f.map (nrm 1), (fun x => rmulO x (nrm D n)) x = some ((fun q : Q2 => nrm D (q.1 * n)) x) := by
      intro x hx
      obtain ⟨y, hy, rfl⟩ := List.mem_map.mp hx
      show rmulO (nrm 1 y) (nrm D n) = some (nrm D ((nrm 1 y).1 * n))
      rw [rmul_nrm (by decide) hD (hf y hy) (by decide) on oD, Int.one_mul, nrm_one]
    rw [optMap_map e, List.map_map, List.map_map]
    congr 1
    apply List.map_congr_left
    intro y _
    show nrm D ((nrm 1 y).1 * n) = nrm D (y * n)
    rw [nrm_one]
def zraise (l : List Int) (k : Nat) : List Int := if l = [] then [] else List.replicate k 0 ++ l
theorem qraise_PP {D : Int} (hD : 0 < D) (l : List Int) (k : Nat) : qraiseP (PP D l) k = PP D (zraise l k) := by
  unfold qraiseP zraise
  cases l with
  | nil => rfl
  | cons x r =>
    rw [if_neg (by simp [PP]), if_neg (by simp)]
    simp [PP, nrm_zero hD]
def Bd (B : Nat) (l : List Int) : Prop := ∀ x ∈ l, x.natAbs ≤ B
theorem okI_of {x : Int} (h : x.natAbs < 2 ^ 60) : okI x = true := decide_eq_true h
theorem Bd.ok {B : Nat} {l : List Int} (h : Bd B l) (hB : B < 2 ^ 60) : OkL l := fun x hx => okI_of (Nat.lt_of_le_of_lt (h x hx) hB)
theorem Bd.mono {B C : Nat} {l : List Int} (h : Bd B l) (hB : B ≤ C) : Bd C l := fun x hx => Nat.le_trans (h x hx) hB
theorem Bd.getD {B : Nat} {l : List Int} (h : Bd B l) (i : Nat) : (l.getD i 0).natAbs ≤ B := by
  rcases Nat.lt_or_ge i l.length with hi | hi
  · have : l.getD i 0 = l[i] := by simp [List.getD, hi]
    rw [this]
    exact h _ (List.getElem_mem hi)
  · have : l.getD i 0 = 0 := by simp [List.getD, List.getElem?_eq_none hi]
    rw [this]
    exact Nat.zero_le _
theorem Bd.set {B : Nat} {l : List Int} (h : Bd B l) (i : Nat) {x : Int} (hx : x.natAbs ≤ B) : Bd B (l.set i x) := by
  intro y hy
  rcases List.mem_or_eq_of_mem_set hy with hy | rfl
  · exact h y hy
  · exact hx
theorem Bd.repl (k : Nat) : Bd 0 (List.replicate k 0) := by
  intro x hx
  rw [(List.mem_replicate.mp hx).2]
  exact Nat.le_refl _
theorem PP_set (D : Int) (l : List Int) (i : Nat) (x : Int) : PP D (l.set i x) = (PP D l).set i (nrm D x) := by simp [PP, List.map_set]
theorem step_PP {E D : Int} (hE : 0 < E) (hD : 0 < D) (oE : okI E = true) (oD : okI D = true) (oED : okI (E * D) = true) {f : List Int} {a b : Int} (hf : OkL f) (oa : okI a = true) (ob : okI b = true) (oab : okI (a * b) = true) (i j : Nat) :
    mulStep i j (nrm E a) (nrm D b) (PP (E * D) f) = some (PP (E * D) (tmStep i a f (j, b))) := by
  have hED := Int.mul_pos hE hD
  unfold mulStep
  rw [rmul_nrm hE hD oa oE ob oD]
  dsimp only
  rw [PP_getD hED, radd_same hED (hf.getD _) oED oab]
  dsimp only
  rw [← PP_set]
  rfl
theorem row_PP {E D : Int} (hE : 0 < E) (hD : 0 < D) (oE : okI E = true) (oD : okI D = true) (oED : okI (E * D) = true) {a : Int} {A B : Nat} (ha : a.natAbs ≤ A) (hA : A < 2 ^ 60) (hB : B < 2 ^ 60) (i : Nat) :
    ∀ (bs : List (Nat × Int)) (f : List Int) (C : Nat), Bd C f → (∀ b ∈ bs, b.2.natAbs ≤ B) → A * B < 2 ^ 60 → C + bs.length * (A * B) < 2 ^ 60 →
      foldO (fun f (jy : Nat × Q2) => mulStep i jy.1 (nrm E a) jy.2 f) (PP (E * D) f) (bs.map fun jb => (jb.1, nrm D jb.2)) = some (PP (E * D) (bs.foldl (tmStep i a) f)) ∧ Bd (C + bs.length * (A * B)) (bs.foldl (tmStep i a) f)
  | [], f, C, hf, _, _, _ => ⟨rfl, by simpa using hf⟩
  | b :: bs, f, C, hf, hb, hAB, hC => by
    have hb0 := hb b (.head _)
    have hab : (a * b.2).natAbs ≤ A * B := by
      rw [Int.natAbs_mul]
      exact Nat.mul_le_mul ha hb0
    have hlen : C + (b :: bs).length * (A * B) = (C + A * B) + bs.length * (A * B) := by
      rw [List.length_cons, Nat.succ_mul]
      omega
    have hC0 : C < 2 ^ 60 := by omega
    have st := step_PP hE hD oE oD oED (hf.ok hC0) (okI_of (Nat.lt_of_le_of_lt ha hA)) (okI_of (Nat.lt_of_le_of_lt hb0 hB)) (okI_of (Nat.lt_of_le_of_lt hab hAB)) i b.1
    have hf' : Bd (C + A * B) (tmStep i a f (b.1, b.2)) := by
      refine (hf.mono (Nat.le_add_right _ _)).set _ ?_
      have := hf.getD (i + b.1)
      have h2 := Int.natAbs_add_le (f.getD (i + b.1) 0) (a * b.2)
      show (f.getD (i + b.1) 0 + a * b.2).natAbs ≤ _
      omega
    have ih := row_PP hE hD oE oD oED ha hA hB i bs (tmStep i a f (b.1, b.2)) (C + A * B) hf' (fun x hx => hb x (.tail _ hx)) hAB (by omega)
    rw [hlen]
    refine ⟨?_, ih.2⟩
    rw [List.map_cons, foldO, st]
    exact ih.1
theorem enumL_PP {D : Int} : ∀ (l : List Int) (k : Nat), enumL k (PP D l) = (enumL k l).map fun jb => (jb.1, nrm D jb.2)
  | [], _ => rfl
  | x :: r, k => by
    show (k, nrm D x) :: enumL (k + 1) (PP D r) = _
    rw [enumL_PP r (k + 1)]
    rfl
theorem enumL_mem {α : Type} : ∀ {l : List α} {k : Nat} {e : Nat × α}, e ∈ enumL k l → e.2 ∈ l
  | _ :: _, _, _, h => by
    rcases List.mem_cons.mp h with rfl | h
    · exact .head _
    · exact .tail _ (enumL_mem h)
theorem rows_PP {E D : Int} (hE : 0 < E) (hD : 0 < D) (oE : okI E = true) (oD : okI D = true) (oED : okI (E * D) = true) {l : List Int} {A B : Nat} (hA : A < 2 ^ 60) (hB : B < 2 ^ 60) (hl : Bd B l) (hAB : A * B < 2 ^ 60) :
    ∀ (as : List (Nat × Int)) (f : List Int) (C : Nat), Bd C f → (∀ a ∈ as, a.2.natAbs ≤ A) → C + as.length * (l.length * (A * B)) < 2 ^ 60 →
      foldO (mulRow (PP D l)) (PP (E * D) f) (as.map fun ia => (ia.1, nrm E ia.2)) = some (PP (E * D) (as.foldl (tmRow l) f)) ∧ Bd (C + as.length * (l.length * (A * B))) (as.foldl (tmRow l) f)
  | [], f, C, hf, _, _ => ⟨rfl, by simpa using hf⟩
  | a :: as, f, C, hf, ha, hC => by
    have hlen : C + (a :: as).length * (l.length * (A * B)) = (C + l.length * (A * B)) + as.length * (l.length * (A * B)) := by
      rw [List.length_cons, Nat.succ_mul]
      omega
    have r := row_PP (D := D) hE hD oE oD oED (ha a (.head _)) hA hB a.1 (enumL 0 l) f C hf (fun b hb => hl _ (enumL_mem hb)) hAB (by rw [enumL_length]; omega)
    rw [enumL_length] at r
    have ih := rows_PP hE hD oE oD oED hA hB hl hAB as (tmRow l f a) (C + l.length * (A * B)) r.2 (fun x hx => ha x (.tail _ hx)) (by omega)
    rw [hlen]
    refine ⟨?_, ih.2⟩
    rw [List.map_cons, foldO]
    have e : mulRow (PP D l) (PP (E * D) f) (a.1, nrm E a.2) = some (PP (E * D) (tmRow l f a)) := by
      unfold mulRow
      rw [enumL_PP]
      exact r.1
    rw [e]
    exact ih.1
theorem qmul_PP {E D : Int} (hE : 0 < E) (hD : 0 < D) (oE : okI E = true) (oD : okI D = true) (oED : okI (E * D) = true) {m l : List Int} {A B : Nat} (hA : A < 2 ^ 60) (hB : B < 2 ^ 60) (hm : Bd A m) (hl : Bd B l) (hAB : A * B < 2 ^ 60) (hC : m.length * (l.length * (A * B)) < 2 ^ 60) :
    qmulO (PP E m) (PP D l) = some (if m.length = 0 ∨ l.length = 0 then [] else PP (E * D) (timesP m l)) ∧ Bd (m.length * (l.length * (A * B))) (timesP m l) := by
  have r := rows_PP hE hD oE oD oED hA hB hl hAB (enumL 0 m) (List.replicate (m.length + l.length - 1) 0) 0 (Bd.repl _) (fun a ha => hm _ (enumL_mem ha)) (by rw [enumL_length]; omega)
  rw [enumL_length, Nat.zero_add] at r
  refine ⟨?_, r.2⟩
  unfold qmulO
  rw [PP_length, PP_length]
  split
  · rfl
  · have e : List.replicate (m.length + l.length - 1) ((0, 1) : Q2) = PP (E * D) (List.replicate (m.length + l.length - 1) 0) := by
      simp [PP, nrm_zero (Int.mul_pos hE hD)]
    rw [e, enumL_PP]
    exact r.1
def lastI (l : List Int) : Int := l.getD (l.length - 1) 0
theorem lastQ_PP {D : Int} (hD : 0 < D) (l : List Int) : lastQ (PP D l) = nrm D (lastI l) := by
  unfold lastQ lastI
  rw [PP_length, PP_getD hD]
theorem PP_take (D : Int) (l : List Int) (k : Nat) : (PP D l).take k = PP D (l.take k) := by simp [PP, List.map_take]
def stepI (f l : List Int) : List Int := itrim (zadd (l.take (l.length - 1)) (zneg (zraise (zscale (f.take (f.length - 1)) (lastI l)) (l.length - f.length))))
def remI (f : List Int) : Nat → List Int → List Int
  | 0, l => l
  | k + 1, l => if f.length ≤ l.length then remI f k (stepI f l) else l
theorem itrim_length_le (l : List Int) : (itrim l).length ≤ l.length := by
  unfold itrim
  rw [List.length_reverse]
  have := (List.dropWhile_sublist (l := l.reverse) (· == 0)).length_le
  rw [List.length_reverse] at this
  exact this
theorem mem_itrim {l : List Int} {x : Int} (h : x ∈ itrim l) : x ∈ l := by
  unfold itrim at h
  have := (List.dropWhile_sublist (l := l.reverse) (· == 0)).subset (List.mem_reverse.mp h)
  exact List.mem_reverse.mp this
theorem zadd_length (l m : List Int) : (zadd l m).length = max l.length m.length := by simp [zadd]
theorem zscale_length_le (f : List Int) (n : Int) : (zscale f n).length ≤ f.length := by
  unfold zscale
  split <;> simp
theorem zraise_length_le (l : List Int) (k : Nat) : (zraise l k).length ≤ k + l.length := by
  unfold zraise
  split
  · simp
  · simp
theorem zneg_length (l : List Int) : (zneg l).length = l.length := by simp [zneg]
theorem stepI_length {f l : List Int} (hf : 1 ≤ f.length) (h : f.length ≤ l.length) : (stepI f l).length ≤ l.length - 1 := by
  unfold stepI
  refine Nat.le_trans (itrim_length_le _) ?_
  rw [zadd_length, zneg_length]
  have h1 := zraise_length_le (zscale (f.take (f.length - 1)) (lastI l)) (l.length - f.length)
  have h2 := zscale_length_le (f.take (f.length - 1)) (lastI l)
  simp only [List.length_take] at h2 ⊢
  omega
theorem Bd.take {B : Nat} {l : List Int} (h : Bd B l) (k : Nat) : Bd B (l.take k) := fun x hx => h x (List.mem_of_mem_take hx)
theorem Bd.last {B : Nat} {l : List Int} (h : Bd B l) : (lastI l).natAbs ≤ B := h.getD _
theorem Bd.scale {F : Nat} {f : List Int} (h : Bd F f) {n : Int} {B : Nat} (hn : n.natAbs ≤ B) : Bd (F * B) (zscale f n) := by
  unfold zscale
  split
  · intro x hx
    cases hx
  · intro x hx
    obtain ⟨y, hy, rfl⟩ := List.mem_map.mp hx
    rw [Int.natAbs_mul]
    exact Nat.mul_le_mul (h y hy) hn
theorem Bd.raise {B : Nat} {l : List Int} (h : Bd B l) (k : Nat) : Bd B (zraise l k) := by
  unfold zraise
  split
  · intro x hx
    cases hx
  · intro x hx
    rcases List.mem_append.mp hx with hx | hx
    · rw [(List.mem_replicate.mp hx).2]
      exact Nat.zero_le _
    · exact h x hx
theorem Bd.zneg {B : Nat} {l : List Int} (h : Bd B l) : Bd B (zneg l) := by
  intro x hx
  obtain ⟨y, hy, rfl⟩ := List.mem_map.mp hx
  rw [Int.natAbs_neg]
  exact h y hy
theorem Bd.zadd {B C : Nat} {l m : List Int} (h : Bd B l) (k : Bd C m) : Bd (B + C) (zadd l m) := by
  intro x hx
  obtain ⟨i, _, rfl⟩ := List.mem_map.mp hx
  have h1 := h.getD i
  have h2 := k.getD i
  have h3 := Int.natAbs_add_le (l.getD i 0) (m.getD i 0)
  omega
theorem Bd.itrim {B : Nat} {l : List Int} (h : Bd B l) : Bd B (itrim l) := fun x hx => h x (mem_itrim hx)
theorem Bd.step {B F : Nat} {f l : List Int} (hf : Bd F f) (hl : Bd B l) : Bd (B * (1 + F)) (stepI f l) := by
  have e : B * (1 + F) = B + F * B := by rw [Nat.mul_add, Nat.mul_one, Nat.mul_comm]
  rw [e]
  exact ((hl.take _).zadd ((((hf.take _).scale hl.last).raise _).zneg)).itrim
theorem div_PP {D : Int} (hD : 0 < D) (oD : okI D = true) {f : List Int} {F : Nat} (hf : Bd F f) (hF : F < 2 ^ 60) (hf1 : 1 ≤ f.length) (hf3 : f.length ≤ 300) (hm : lastI f = 1) :
    ∀ (k t : Nat) (l : List Int) (found : List Q2) (B : Nat), Bd B l → l.length ≤ 300 → l.length + 1 ≤ found.length + f.length → l.length < f.length + t → l.length < f.length + k → B * (1 + F) ^ t < 2 ^ 60 →
      ∃ fd, divLoop (PP 1 f) k (PP D l) found = some (PP D (remI f k l), fd) ∧ Bd (B * (1 + F) ^ t) (remI f k l) ∧ (remI f k l).length < f.length
  | 0, t, l, found, B, hl, _, _, hk, ht, _ => by
    refine ⟨found, ?_, hl.mono (Nat.le_mul_of_pos_right _ (Nat.pow_pos (by omega))), by rw [Nat.add_zero] at ht; exact ht⟩
    unfold divLoop
    rw [PP_length, PP_length, if_neg (by omega)]
    rfl
  | k + 1, t, l, found, B, hl, h3, hfd, hk, ht, hB => by
    by_cases hge : f.length ≤ l.length
    · obtain ⟨t, rfl⟩ : ∃ t', t = t' + 1 := ⟨t - 1, by omega⟩
      have hBs : B * (1 + F) ≤ B * (1 + F) ^ (t + 1) := by
        refine Nat.mul_le_mul_left _ ?_
        rw [Nat.pow_succ]
        exact Nat.le_mul_of_pos_left _ (Nat.pow_pos (by omega))
      have e : B * (1 + F) = B + F * B := by rw [Nat.mul_add, Nat.mul_one, Nat.mul_comm]
      have hB0 : B < 2 ^ 60 := by omega
      have hFB : F * B < 2 ^ 60 := by omega
      have hsl := stepI_length hf1 hge
      have hst := hf.step hl
      have hpow : B * (1 + F) * (1 + F) ^ t = B * (1 + F) ^ (t + 1) := by rw [Nat.pow_succ, Nat.mul_assoc, Nat.mul_comm (1 + F)]
      obtain ⟨fd, ih1, ih2, ih3⟩ := div_PP hD oD hf hF hf1 hf3 hm k t (stepI f l) (found.set (l.length - f.length) (nrm D (lastI l))) (B * (1 + F)) hst (by omega) (by simp; omega) (by omega) (by omega) (by rw [hpow]; exact hB)
      refine ⟨fd, ?_, by rw [← hpow]; simpa [remI, if_pos hge] using ih2, by simpa [remI, if_pos hge] using ih3⟩
      have oL : okI (lastI l) = true := okI_of (Nat.lt_of_le_of_lt hl.last hB0)
      unfold divLoop
      rw [PP_length, PP_length, if_pos hge, lastQ_PP hD, lastQ_PP (by decide), hm, nrm_one, rdiv_one hD oL oD]
      dsimp only
      rw [PP_take, qscale_PP hD oD oL ((hf.take _).ok hF)]
      dsimp only
      rw [PP_take, qraise_PP hD, qsub_PP hD oD ((hl.take _).ok hB0) (((((hf.take _).scale hl.last).raise _)).ok hFB)]
      dsimp only
      have hzl := zscale_length_le (f.take (f.length - 1)) (lastI l)
      simp only [List.length_take] at hzl
      have hsl' : (PP D (stepI f l)).length ≤ 300 := by rw [PP_length]; omega
      rw [if_pos ⟨hsl', by omega, by rw [PP_length]; omega⟩]
      rw [show remI f (k + 1) l = remI f k (stepI f l) from by rw [remI, if_pos hge]]
      exact ih1
    · refine ⟨found, ?_, ?_, ?_⟩
      · unfold divLoop
        rw [PP_length, PP_length, if_neg hge]
        rw [show remI f (k + 1) l = l from by rw [remI, if_neg hge]]
      · rw [show remI f (k + 1) l = l from by rw [remI, if_neg hge]]
        exact hl.mono (Nat.le_mul_of_pos_right _ (Nat.pow_pos (by omega)))
      · rw [show remI f (k + 1) l = l from by rw [remI, if_neg hge]]
        omega
theorem qdivmod_PP {D : Int} (hD : 0 < D) (oD : okI D = true) {f l : List Int} {F B : Nat} (hf : Bd F f) (hF : F < 2 ^ 60) (hf1 : 1 ≤ f.length) (hf3 : f.length ≤ 300) (hm : lastI f = 1) (hl : Bd B l) (h3 : l.length ≤ 300) {t : Nat} (ht : l.length < f.length + t) (hB : B * (1 + F) ^ t < 2 ^ 60) :
    ∃ q, qdivmodO (PP D l) (PP 1 f) = some (q, PP D (remI f (l.length + 1) l)) ∧ Bd (B * (1 + F) ^ t) (remI f (l.length + 1) l) ∧ (remI f (l.length + 1) l).length < f.length := by
  obtain ⟨fd, h1, h2, h4⟩ := div_PP hD oD hf hF hf1 hf3 hm (l.length + 1) t l (List.replicate (l.length + 1 - f.length) (0, 1)) B hl h3 (by simp; omega) ht (by omega) hB
  refine ⟨qtrimP fd, ?_, h2, h4⟩
  unfold qdivmodO
  rw [PP_length, PP_length, if_neg (by omega), h1]
def co (l : List Int) (i : Nat) : Int := l.getD i 0
theorem co_ge {l : List Int} {i : Nat} (h : l.length ≤ i) : co l i = 0 := by simp [co, List.getD, List.getElem?_eq_none h]
theorem co_append_left {l m : List Int} {i : Nat} (h : i < l.length) : co (l ++ m) i = co l i := by
  simp [co, List.getD, List.getElem?_append_left h]
theorem co_itrim (l : List Int) (i : Nat) : co (itrim l) i = co l i := by
  have key : ∀ n (l : List Int), l.length = n → ∀ i, co (itrim l) i = co l i := by
    intro n
    induction n with
    | zero =>
      intro l hl i
      obtain rfl := List.eq_nil_of_length_eq_zero hl
      rfl
    | succ n ih =>
      intro l hl i
      rcases List.eq_nil_or_concat l with rfl | ⟨ms, x, hc⟩
      · rfl
      · rw [List.concat_eq_append] at hc
        subst hc
        have hms : ms.length = n := by simpa using hl
        by_cases hx : x = 0
        · subst hx
          rw [itrim_zero, ih ms hms]
          rcases Nat.lt_or_ge i ms.length with h | h
          · rw [co_append_left h]
          · rw [co_ge h]
            rcases Nat.lt_or_ge ms.length i with h' | h'
            · rw [co_ge (by simp; omega)]
            · have : i = ms.length := by omega
              subst this
              simp [co, List.getD]
        · rw [itrim_ne ms hx]
  exact key _ l rfl i
theorem co_zadd (l m : List Int) (i : Nat) : co (zadd l m) i = co l i + co m i := by
  rcases Nat.lt_or_ge i (max l.length m.length) with h | h
  · simp [co, zadd, List.getD, h]
  · rw [co_ge (by rw [zadd_length]; exact h), co_ge (by omega), co_ge (by omega)]
    rfl
theorem co_zneg (l : List Int) (i : Nat) : co (zneg l) i = - co l i := by
  rcases Nat.lt_or_ge i l.length with h | h
  · simp [co, zneg, List.getD, h]
  · rw [co_ge (by rw [zneg_length]; exact h), co_ge h]
    rfl
theorem co_map (l : List Int) (n : Int) (i : Nat) : co (l.map fun x => x * n) i = co l i * n := by
  rcases Nat.lt_or_ge i l.length with h | h
  · simp [co, List.getD, h]
  · rw [co_ge (by simpa using h), co_ge h, Int.zero_mul]
theorem co_zscale (f : List Int) (n : Int) (i : Nat) : co (zscale f n) i = co f i * n := by
  unfold zscale
  split
  · rename_i h
    rw [h, Int.mul_zero]
    rfl
  · exact co_map f n i
theorem co_zraise (l : List Int) (k i : Nat) : co (zraise l k) i = if i < k then 0 else co l (i - k) := by
  unfold zraise
  split
  · rename_i h
    subst h
    split <;> rfl
  · split
    · rename_i h
      rw [co_append_left (by simpa using h)]
      simp [co, List.getD, h]
    · rename_i h
      simp [co, List.getD, List.getElem?_append_right (show (List.replicate k (0 : Int)).length ≤ i by simp; omega)]
theorem co_take (l : List Int) (k i : Nat) : co (l.take k) i = if i < k then co l i else 0 := by
  split
  · rename_i h
    simp [co, List.getD, List.getElem?_take, h]
  · rename_i h
    exact co_ge (by simp; omega)
/-- one elimination: the coefficient k by a monic polynomial of degree d -/
def elim (f : List Int) (d k : Nat) (c : Nat → Int) (i : Nat) : Int := if i < k then c i - (if i + d < k then 0 else co f (i + d - k) * c k) else 0
def rc (f : List Int) (d : Nat) : Nat → (Nat → Int) → (Nat → Int)
  | 0, c => c
  | t + 1, c => rc f d t (elim f d (d + t) c)
theorem co_step {f l : List Int} {d : Nat} (hf : f.length = d + 1) (hl : d + 1 ≤ l.length) (i : Nat) : co (stepI f l) i = elim f d (l.length - 1) (co l) i := by
  unfold stepI
  rw [co_itrim, co_zadd, co_zneg, co_zraise, co_zscale, co_take]
  unfold elim
  have hd : lastI l = co l (l.length - 1) := rfl
  by_cases h : i < l.length - 1
  · rw [if_pos h, if_pos h]
    by_cases h2 : i + d < l.length - 1
    · rw [if_pos (show i < l.length - f.length by omega), if_pos h2]
      omega
    · rw [if_neg (show ¬ i < l.length - f.length by omega), if_neg h2, co_take, if_pos (by omega), hd, show i - (l.length - f.length) = i + d - (l.length - 1) by omega]
      omega
  · rw [if_neg h, if_neg h, if_neg (show ¬ i < l.length - f.length by omega), co_take, if_neg (by omega)]
    simp
theorem rc_congr {f : List Int} {d : Nat} : ∀ (t : Nat) {c c' : Nat → Int}, (∀ i, c i = c' i) → ∀ i, rc f d t c i = rc f d t c' i
  | 0, _, _, h, i => h i
  | t + 1, c, c', h, i => by
    have : c = c' := funext h
    rw [this]
theorem co_rem {f : List Int} {d : Nat} (hf : f.length = d + 1) : ∀ (t k : Nat) (l : List Int), l.length ≤ d + t → l.length ≤ d + k → ∀ i, co (remI f k l) i = rc f d t (co l) i
  | 0, k, l, hl, _, i => by
    cases k with
    | zero => rfl
    | succ k => rw [show remI f (k + 1) l = l from by rw [remI, if_neg (by omega)]]; rfl
  | t + 1, k, l, hl, hk, i => by
    by_cases hge : d + 1 ≤ l.length
    · by_cases he : l.length = d + t + 1
      · obtain ⟨k', rfl⟩ : ∃ k', k = k' + 1 := ⟨k - 1, by omega⟩
        rw [show remI f (k' + 1) l = remI f k' (stepI f l) from by rw [remI, if_pos (by omega)]]
        have hs := stepI_length (f := f) (l := l) (by omega) (by omega)
        rw [co_rem hf t k' (stepI f l) (by omega) (by omega) i]
        show _ = rc f d t (elim f d (d + t) (co l)) i
        refine rc_congr t (fun j => ?_) i
        rw [co_step hf hge, show l.length - 1 = d + t by omega]
      · rw [co_rem hf t k l (by omega) (by omega) i]
        show _ = rc f d t (elim f d (d + t) (co l)) i
        refine rc_congr t (fun j => ?_) i
        have h0 : co l (d + t) = 0 := co_ge (by omega)
        unfold elim
        rw [h0, Int.mul_zero]
        split
        · simp
        · exact co_ge (by omega)
    · rw [co_rem hf t k l (by omega) (by omega) i]
      show _ = rc f d t (elim f d (d + t) (co l)) i
      refine rc_congr t (fun j => ?_) i
      have h0 : co l (d + t) = 0 := co_ge (by omega)
      unfold elim
      rw [h0, Int.mul_zero]
      split
      · simp
      · exact co_ge (by omega)
/-- no zero at the end -/
def Trim (l : List Int) : Prop := l = [] ∨ co l (l.length - 1) ≠ 0
theorem trim_itrim (l : List Int) : Trim (itrim l) := by
  have key : ∀ n (l : List Int), l.length = n → Trim (itrim l) := by
    intro n
    induction n with
    | zero =>
      intro l hl
      obtain rfl := List.eq_nil_of_length_eq_zero hl
      exact .inl rfl
    | succ n ih =>
      intro l hl
      rcases List.eq_nil_or_concat l with rfl | ⟨ms, x, hc⟩
      · exact .inl rfl
      · rw [List.concat_eq_append] at hc
        subst hc
        by_cases hx : x = 0
        · subst hx
          rw [itrim_zero]
          exact ih ms (by simpa using hl)
        · rw [itrim_ne ms hx]
          refine .inr ?_
          simpa [co, List.getD] using hx
  exact key _ l rfl
theorem trim_rem {f : List Int} : ∀ (k : Nat) {l : List Int}, Trim l → Trim (remI f k l)
  | 0, _, h => h
  | k + 1, l, h => by
    unfold remI
    split
    · exact trim_rem k (trim_itrim _)
    · exact h
theorem trim_ext {l m : List Int} (hl : Trim l) (hm : Trim m) (h : ∀ i, co l i = co m i) : l = m := by
  have hlen : l.length = m.length := by
    rcases Nat.lt_trichotomy l.length m.length with q | q | q
    · rcases hm with rfl | hm
      · simp at q
      · exact absurd ((h _).symm.trans (co_ge (by omega))) hm
    · exact q
    · rcases hl with rfl | hl
      · simp at q
      · exact absurd ((h _).trans (co_ge (by omega))) hl
  apply List.ext_getElem hlen
  intro i h1 h2
  have := h i
  simpa [co, List.getD, h1, h2] using this
theorem PP_scale {D : Int} (hD : 0 < D) {l m : List Int} (hl : Trim l) (hm : Trim m) (h : ∀ i, co l i = co m i * D) : PP D l = PP 1 m := by
  have e : l = m.map fun x => x * D := by
    refine trim_ext hl ?_ (fun i => by rw [co_map, h])
    rcases hm with rfl | hm
    · exact .inl rfl
    · refine .inr ?_
      rw [co_map, List.length_map]
      intro q
      rcases Int.mul_eq_zero.mp q with q | q
      · exact hm q
      · omega
  rw [e]
  unfold PP
  rw [List.map_map]
  apply List.map_congr_left
  intro x _
  show nrm D (x * D) = nrm 1 x
  have := nrm_mul (k := D) (D := 1) (n := x) hD (by decide)
  rw [Int.mul_one] at this
  rw [Int.mul_comm x D]
  exact this
theorem tmRow_length {i : Nat} {a : Int} : ∀ (bs : List (Nat × Int)) (f : List Int), (bs.foldl (tmStep i a) f).length = f.length
  | [], _ => rfl
  | b :: bs, f => by
    rw [List.foldl_cons, tmRow_length bs]
    simp [tmStep]
theorem co_set (l : List Int) (k : Nat) (x : Int) (t : Nat) (hk : k < l.length) : co (l.set k x) t = if t = k then x else co l t := by
  unfold co List.getD
  rw [List.getElem?_set]
  by_cases h : k = t
  · subst h
    simp [hk]
  · rw [if_neg h, if_neg (fun e => h e.symm)]
theorem co_row {i : Nat} {a : Int} (t : Nat) : ∀ (bs : List Int) (k : Nat) (f : List Int), i + k + bs.length ≤ f.length → co ((enumL k bs).foldl (tmStep i a) f) t = co f t + (if i + k ≤ t then a * co bs (t - (i + k)) else 0)
  | [], k, f, _ => by
    show co f t = _
    split <;> simp [co]
  | b :: r, k, f, h => by
    have hlt : i + k < f.length := by simp at h; omega
    show co ((enumL (k + 1) r).foldl (tmStep i a) (tmStep i a f (k, b))) t = _
    rw [co_row t r (k + 1) _ (by simp [tmStep]; simp at h; omega)]
    have e : co (tmStep i a f (k, b)) t = if t = i + k then co f (i + k) + a * b else co f t := co_set _ _ _ _ hlt
    rw [e]
    by_cases h1 : t = i + k
    · subst h1
      rw [if_pos rfl, if_neg (by omega), if_pos (Nat.le_refl _), Nat.sub_self]
      simp [co]
    · rw [if_neg h1]
      by_cases h2 : i + k ≤ t
      · rw [if_pos (by omega), if_pos h2]
        congr 2
        have : t - (i + k) = (t - (i + (k + 1))) + 1 := by omega
        rw [this]
        rfl
      · rw [if_neg (by omega), if_neg h2]
theorem co_repl (k t : Nat) : co (List.replicate k 0) t = 0 := by
  unfold co List.getD
  rw [List.getElem?_replicate]
  split <;> rfl
theorem co_times {m l : List Int} (hm : m.length ≤ 2) (hl : 1 ≤ l.length) (h1 : 1 ≤ m.length) (t : Nat) : co (timesP m l) t = co m 0 * co l t + (if 1 ≤ t then co m 1 * co l (t - 1) else 0) := by
  match m, hm, h1 with
  | [x], _, _ =>
    show co ((enumL 0 l).foldl (tmStep 0 x) (List.replicate (1 + l.length - 1) 0)) t = _
    rw [co_row t l 0 _ (by simp), co_repl]
    have e : co [x] 1 = 0 := rfl
    rw [e]
    simp [co]
  | [x, y], _, _ =>
    show co ((enumL 0 l).foldl (tmStep 1 y) ((enumL 0 l).foldl (tmStep 0 x) (List.replicate (2 + l.length - 1) 0))) t = _
    rw [co_row t l 0 _ (by rw [tmRow_length]; simp <;> omega), co_row t l 0 _ (by simp <;> omega), co_repl]
    simp [co]
theorem timesP_length {m l : List Int} : (timesP m l).length = m.length + l.length - 1 := by
  unfold timesP
  have : ∀ (as : List (Nat × Int)) (f : List Int), (as.foldl (tmRow l) f).length = f.length := by
    intro as
    induction as with
    | nil => intro f; rfl
    | cons a as ih =>
      intro f
      rw [List.foldl_cons, ih]
      exact tmRow_length _ _
  rw [this]
  simp
theorem idx_lt {α : Type} {l : List α} {i : Nat} {x : α} (h : l[i]? = some x) : i < l.length := by
  rcases Nat.lt_or_ge i l.length with h' | h'
  · exact h'
  · rw [List.getElem?_eq_none h'] at h
    cases h
def partC (n : Nat) (f l : List Int) (c : Nat → Int) (i : Nat) : Int :=
  rc f (f.length - 1) (n - (f.length - 1)) c 0 * co l i + (if 1 ≤ i then rc f (f.length - 1) (n - (f.length - 1)) c 1 * co l (i - 1) else 0)
def backC (n : Nat) (facs ls : List (List Int)) (c : Nat → Int) : Nat → Nat → Int
  | 0, _ => 0
  | k + 1, i => backC n facs ls c k i + partC n (facs.getD k []) (ls.getD k []) c i
structure Num (facs : List (List Int)) (F0 : List Int) (D : Int) (ls : List (List Int)) : Prop where
  n3 : facs.length ≤ 3
  D0 : 0 < D
  oD : okI D = true
  fac : ∀ (k : Nat) (f : List Int), facs[k]? = some f → rowP f = PP 1 f ∧ Bd 64 f ∧ lastI f = 1 ∧ 2 ≤ f.length ∧ f.length ≤ 3 ∧ f.length ≤ F0.length
  F0m : lastI F0 = 1 ∧ Bd 64 F0 ∧ 3 ≤ F0.length ∧ F0.length ≤ 4
  lsl : ls.length = facs.length
  lsb : ∀ (k : Nat) (f l : List Int), facs[k]? = some f → ls[k]? = some l → Bd (2 ^ 20) l ∧ 1 ≤ l.length ∧ l.length ≤ 3 ∧ (f.length - 1) + l.length - 1 ≤ F0.length
  key : ∀ c : Nat → Int, (∀ i, F0.length ≤ i → c i = 0) → ∀ i, i < F0.length - 1 → rc F0 (F0.length - 1) 1 (backC F0.length facs ls c facs.length) i = rc F0 (F0.length - 1) 1 c i * D
theorem rowP_PP (hs : List Int) : rowP hs = PP 1 (itrim hs) := by
  unfold rowP PP
  apply List.map_congr_left
  intro x _
  exact (nrm_one x).symm
/-- the int lists behind the sums -/
def remH (h f : List Int) : List Int := remI f (h.length + 1) h
def prodI (h f l : List Int) : List Int := if (remH h f).length = 0 ∨ l.length = 0 then [] else timesP (remH h f) l
def bI (h : List Int) (facs ls : List (List Int)) : Nat → List Int
  | 0 => []
  | k + 1 => itrim (zadd (bI h facs ls k) (prodI h (facs.getD k []) (ls.getD k [])))
theorem getD_of {α : Type} {l : List α} {k : Nat} {x d : α} (h : l[k]? = some x) : l.getD k d = x := by simp [List.getD, h]
section
variable {facs : List (List Int)} {F0 : List Int} {D : Int} {ls : List (List Int)} {h : List Int}
theorem pow_le (a : Nat) {i j : Nat} (h : i ≤ j) (ha : 1 ≤ a) : a ^ i ≤ a ^ j := Nat.pow_le_pow_right ha h
theorem rem_facts (N : Num facs F0 D ls) (hb : Bd 3 h) (hl : h.length ≤ F0.length) {k : Nat} {f : List Int} (hf : facs[k]? = some f) :
    (∃ q, qdivmodO (PP 1 h) (rowP f) = some (q, PP 1 (remH h f))) ∧ Bd (3 * 65 ^ 4) (remH h f) ∧ (remH h f).length ≤ f.length - 1 ∧ ∀ i, co (remH h f) i = rc f (f.length - 1) (F0.length - (f.length - 1)) (co h) i := by
  obtain ⟨e, b, m, l2, l3, l4⟩ := N.fac k f hf
  have hF := N.F0m
  have ht : F0.length - (f.length - 1) ≤ 4 := by omega
  have hp : 3 * (1 + 64) ^ (F0.length - (f.length - 1)) ≤ 3 * 65 ^ 4 := Nat.mul_le_mul_left _ (pow_le 65 ht (by decide))
  obtain ⟨q, h1, h2, h3⟩ := qdivmod_PP (D := 1) (by decide) (by decide) b (by decide) (by omega) (by omega) m hb (by omega) (t := F0.length - (f.length - 1)) (by omega) (Nat.lt_of_le_of_lt hp (by decide))
  refine ⟨⟨q, by rw [e]; exact h1⟩, h2.mono hp, by have : (remH h f).length < f.length := h3; omega, fun i => ?_⟩
  exact co_rem (d := f.length - 1) (by omega) _ _ h (by omega) (by omega) i
theorem prod_facts (N : Num facs F0 D ls) (hb : Bd 3 h) (hl : h.length ≤ F0.length) {k : Nat} {f l : List Int} (hf : facs[k]? = some f) (hk : ls[k]? = some l) :
    qmulO (PP 1 (remH h f)) (PP D l) = some (PP D (prodI h f l)) ∧ Bd (2 ^ 50) (prodI h f l) ∧ (prodI h f l).length ≤ F0.length ∧ ∀ i, co (prodI h f l) i = partC F0.length f l (co h) i := by
  obtain ⟨_, rb, rl, rcq⟩ := rem_facts N hb hl hf
  obtain ⟨lb, l1, l3, l4⟩ := N.lsb k f l hf hk
  obtain ⟨_, _, _, f2, f3, _⟩ := N.fac k f hf
  have hr2 : (remH h f).length ≤ 2 := by omega
  have hbig : (remH h f).length * (l.length * (3 * 65 ^ 4 * 2 ^ 20)) ≤ 2 ^ 50 := Nat.le_trans (Nat.mul_le_mul hr2 (Nat.mul_le_mul_right _ l3)) (by decide)
  have hm := qmul_PP (E := 1) (D := D) (by decide) N.D0 (by decide) N.oD (by rw [Int.one_mul]; exact N.oD) (A := 3 * 65 ^ 4) (B := 2 ^ 20) (by decide) (by decide) rb lb (by decide) (Nat.lt_of_le_of_lt hbig (by decide))
  rw [Int.one_mul] at hm
  by_cases h0 : (remH h f).length = 0 ∨ l.length = 0
  · have hr0 : (remH h f).length = 0 := by omega
    have e : prodI h f l = [] := if_pos h0
    rw [e]
    refine ⟨by rw [hm.1, if_pos h0]; rfl, fun x hx => (nomatch hx), Nat.zero_le _, fun i => ?_⟩
    unfold partC
    have z0 : co (remH h f) 0 = 0 := co_ge (by omega)
    have z1 : co (remH h f) 1 = 0 := co_ge (by omega)
    rw [← rcq, ← rcq, z0, z1]
    simp [co]
  · have e : prodI h f l = timesP (remH h f) l := if_neg h0
    rw [e]
    refine ⟨by rw [hm.1, if_neg h0], hm.2.mono hbig, by rw [timesP_length]; omega, fun i => ?_⟩
    rw [co_times hr2 l1 (by omega)]
    unfold partC
    rw [← rcq, ← rcq]
theorem back_facts (N : Num facs F0 D ls) (hb : Bd 3 h) (hl : h.length ≤ F0.length) : ∀ k, k ≤ facs.length →
    Bd (k * 2 ^ 50) (bI h facs ls k) ∧ (bI h facs ls k).length ≤ F0.length ∧ Trim (bI h facs ls k) ∧ ∀ i, co (bI h facs ls k) i = backC F0.length facs ls (co h) k i
  | 0, _ => ⟨fun x hx => (nomatch hx), Nat.zero_le _, .inl rfl, fun i => rfl⟩
  | k + 1, hk => by
    obtain ⟨b1, b2, _, b4⟩ := back_facts N hb hl k (by omega)
    have hf : facs[k]? = some (facs.getD k []) := by simp [List.getD, show k < facs.length by omega]
    have hls : ls[k]? = some (ls.getD k []) := by simp [List.getD, show k < ls.length by rw [N.lsl]; omega]
    obtain ⟨_, p2, p3, p4⟩ := prod_facts N hb hl hf hls
    refine ⟨?_, ?_, trim_itrim _, fun i => ?_⟩
    · have : (k + 1) * 2 ^ 50 = k * 2 ^ 50 + 2 ^ 50 := by rw [Nat.succ_mul]
      rw [this]
      exact (b1.zadd p2).itrim
    · refine Nat.le_trans (itrim_length_le _) ?_
      rw [zadd_length]
      omega
    · show co (itrim _) i = _
      rw [co_itrim, co_zadd, b4, p4]
      rfl
theorem hpure_of (N : Num facs F0 D ls) {full : Poly} {parts : List Poly} (hfull : full = PP 1 F0) (hparts : parts = ls.map (PP D)) (hs : List Int) (hl : hs.length = F0.length) (hb : ∀ x ∈ hs, -3 ≤ x ∧ x ≤ 3) :
    ∃ back, HPure facs full parts (rowP hs) back := by
  have hb3 : Bd 3 (itrim hs) := fun x hx => by
    have := hb x (mem_itrim hx)
    omega
  have hll : (itrim hs).length ≤ F0.length := by rw [← hl]; exact itrim_length_le _
  have hF := N.F0m
  have n3 := N.n3
  refine ⟨fun k => PP D (bI (itrim hs) facs ls k), ?_⟩
  rw [rowP_PP]
  subst hfull hparts
  refine ⟨by rw [PP_length]; omega, rfl, ?_, ?_⟩
  · intro k f p hf hp
    obtain ⟨l, hk, rfl⟩ : ∃ l, ls[k]? = some l ∧ p = PP D l := by
      rw [List.getElem?_map] at hp
      cases e : ls[k]? with
      | none => rw [e] at hp; cases hp
      | some l => rw [e] at hp; exact ⟨l, rfl, (Option.some.inj hp).symm⟩
    have hkl := idx_lt hf
    obtain ⟨⟨q, r1⟩, r2, r3, _⟩ := rem_facts N hb3 hll hf
    obtain ⟨p1, p2, p3, _⟩ := prod_facts N hb3 hll hf hk
    obtain ⟨b1, b2, _, _⟩ := back_facts N hb3 hll k (by omega)
    obtain ⟨_, _, _, f2, f3, _⟩ := N.fac k f hf
    have hkb : k * 2 ^ 50 < 2 ^ 60 := Nat.lt_of_le_of_lt (Nat.mul_le_mul_right _ (show k ≤ 3 by omega)) (by decide)
    refine ⟨q, _, _, r1, p1, by rw [PP_length]; omega, by rw [PP_length]; omega, ?_, by rw [PP_length]; omega⟩
    rw [qadd_PP N.D0 N.oD (b1.ok hkb) (p2.ok (by decide))]
    show some _ = some (PP D (itrim (zadd (bI (itrim hs) facs ls k) (prodI (itrim hs) (facs.getD k []) (ls.getD k [])))))
    rw [getD_of hf, getD_of hk]
  · obtain ⟨b1, b2, b3, b4⟩ := back_facts N hb3 hll facs.length (Nat.le_refl _)
    have hnb : facs.length * 2 ^ 50 ≤ 3 * 2 ^ 50 := Nat.mul_le_mul_right _ n3
    obtain ⟨q, q1, q2, q3⟩ := qdivmod_PP (D := D) N.D0 N.oD hF.2.1 (by decide) (by omega) (by omega) hF.1 (b1.mono hnb) (by omega) (t := 1) (by omega) (by decide)
    obtain ⟨q', q1', q2', q3'⟩ := qdivmod_PP (D := 1) (by decide) (by decide) hF.2.1 (by decide) (by omega) (by omega) hF.1 hb3 (by omega) (t := 1) (by omega) (by decide)
    refine ⟨by rw [PP_length]; omega, q, q', _, q1, ?_⟩
    rw [q1']
    congr 2
    refine (PP_scale N.D0 (trim_rem _ b3) (trim_rem _ (trim_itrim hs)) fun i => ?_).symm
    rcases Nat.lt_or_ge i (F0.length - 1) with hi | hi
    · rw [co_rem (d := F0.length - 1) (by omega) 1 _ _ (by omega) (by omega), co_rem (d := F0.length - 1) (by omega) 1 _ _ (by omega) (by omega)]
      rw [rc_congr 1 b4]
      exact N.key (co (itrim hs)) (fun j hj => co_ge (by omega)) i hi
    · rw [co_ge (by omega), co_ge (by omega), Int.zero_mul]
end
/-- linear in the coefficients -/
def Lin (T : (Nat → Int) → Nat → Int) : Prop := ∀ (c c' : Nat → Int) (x : Int) (i : Nat), T (fun j => c j * x + c' j) i = T c i * x + T c' i
theorem Lin.id : Lin (fun c => c) := fun _ _ _ _ => rfl
theorem lin_elim (f : List Int) (d k : Nat) : Lin (elim f d k) := by
  intro c c' x i
  unfold elim
  dsimp only
  split
  · split
    · simp
    · rw [Int.mul_add, Int.sub_mul, Int.mul_assoc]
      omega
  · simp
theorem lin_rc (f : List Int) (d : Nat) : ∀ t, Lin (rc f d t)
  | 0 => fun _ _ _ _ => rfl
  | t + 1 => by
    intro c c' x i
    show rc f d t (elim f d (d + t) _) i = _
    have e : elim f d (d + t) (fun j => c j * x + c' j) = fun j => elim f d (d + t) c j * x + elim f d (d + t) c' j := funext fun j => lin_elim f d (d + t) c c' x j
    rw [e]
    exact lin_rc f d t _ _ x i
theorem lin_comp {S T : (Nat → Int) → Nat → Int} (hS : Lin S) (hT : Lin T) : Lin (fun c => S (T c)) := by
  intro c c' x i
  have e : T (fun j => c j * x + c' j) = fun j => T c j * x + T c' j := funext fun j => hT c c' x j
  show S (T _) i = _
  rw [e]
  exact hS _ _ x i
theorem lin_part (n : Nat) (f l : List Int) : Lin (partC n f l) := by
  intro c c' x i
  have h := lin_rc f (f.length - 1) (n - (f.length - 1)) c c' x
  unfold partC
  rw [h 0, h 1]
  split
  · simp only [Int.add_mul]
    have e1 : ∀ a b : Int, a * x * b = a * b * x := fun a b => by rw [Int.mul_assoc, Int.mul_comm x b, Int.mul_assoc]
    rw [e1, e1]
    omega
  · simp only [Int.add_mul, Int.add_zero]
    have e1 : ∀ a b : Int, a * x * b = a * b * x := fun a b => by rw [Int.mul_assoc, Int.mul_comm x b, Int.mul_assoc]
    rw [e1]
theorem lin_back (n : Nat) (facs ls : List (List Int)) : ∀ k, Lin (fun c => backC n facs ls c k)
  | 0 => fun _ _ _ _ => by simp [backC]
  | k + 1 => by
    intro c c' x i
    have h1 := lin_back n facs ls k c c' x i
    have h2 := lin_part n (facs.getD k []) (ls.getD k []) c c' x i
    show backC n facs ls _ k i + partC n _ _ _ i = (backC n facs ls c k i + partC n _ _ c i) * x + (backC n facs ls c' k i + partC n _ _ c' i)
    have h1' : backC n facs ls (fun j => c j * x + c' j) k i = backC n facs ls c k i * x + backC n facs ls c' k i := h1
    rw [h1', h2, Int.add_mul]
    omega
def e_ (j : Nat) (i : Nat) : Int := if i = j then 1 else 0
def cut (c : Nat → Int) : Nat → Nat → Int
  | 0 => fun _ => 0
  | n + 1 => fun i => e_ n i * c n + cut c n i
theorem cut_eq (c : Nat → Int) : ∀ n i, cut c n i = if i < n then c i else 0
  | 0, i => by simp [cut]
  | n + 1, i => by
    show e_ n i * c n + cut c n i = _
    rw [cut_eq c n i]
    unfold e_
    by_cases h : i = n
    · subst h
      simp
    · by_cases h2 : i < n
      · rw [if_neg h, if_pos h2, if_pos (by omega)]
        simp
      · rw [if_neg h, if_neg h2, if_neg (by omega)]
        simp
theorem lin_zero {T : (Nat → Int) → Nat → Int} (h : Lin T) (i : Nat) : T (fun _ => 0) i = 0 := by
  have := h (fun _ => 0) (fun _ => 0) 1 i
  simp only [Int.mul_one, Int.add_zero] at this
  omega
theorem lin_ext {S T : (Nat → Int) → Nat → Int} (hS : Lin S) (hT : Lin T) (D : Int) (i n : Nat) (hb : ∀ j, j < n → S (e_ j) i = T (e_ j) i * D) {c : Nat → Int} (hc : ∀ j, n ≤ j → c j = 0) : S c i = T c i * D := by
  have key : ∀ m, m ≤ n → S (cut c m) i = T (cut c m) i * D := by
    intro m
    induction m with
    | zero =>
      intro _
      have h1 := lin_zero hS i
      have h2 := lin_zero hT i
      show S (fun _ => 0) i = T (fun _ => 0) i * D
      rw [h1, h2, Int.zero_mul]
    | succ m ih =>
      intro hm
      have e1 := hS (e_ m) (cut c m) (c m) i
      have e2 := hT (e_ m) (cut c m) (c m) i
      have e3 : cut c (m + 1) = fun j => e_ m j * c m + cut c m j := rfl
      rw [e3, e1, e2, hb m (by omega), ih (by omega), Int.add_mul]
      congr 1
      rw [Int.mul_assoc, Int.mul_comm D, Int.mul_assoc]
  have e : c = cut c n := funext fun j => by
    rw [cut_eq]
    split
    · rfl
    · exact hc j (by omega)
  rw [e]
  exact key n (Nat.le_refl _)
/-- the check on the base -/
def keyCheck (facs : List (List Int)) (F0 : List Int) (D : Int) (ls : List (List Int)) : Bool :=
  (List.range (F0.length - 1)).all fun i => (List.range F0.length).all fun j => decide (rc F0 (F0.length - 1) 1 (backC F0.length facs ls (e_ j) facs.length) i = rc F0 (F0.length - 1) 1 (e_ j) i * D)
theorem keyCheck_ok {facs : List (List Int)} {F0 : List Int} {D : Int} {ls : List (List Int)} (h : keyCheck facs F0 D ls = true) (c : Nat → Int) (hc : ∀ i, F0.length ≤ i → c i = 0) (i : Nat) (hi : i < F0.length - 1) :
    rc F0 (F0.length - 1) 1 (backC F0.length facs ls c facs.length) i = rc F0 (F0.length - 1) 1 c i * D := by
  refine lin_ext (S := fun c => rc F0 (F0.length - 1) 1 (backC F0.length facs ls c facs.length)) (T := rc F0 (F0.length - 1) 1) (lin_comp (lin_rc F0 _ 1) (lin_back _ facs ls _)) (lin_rc F0 _ 1) D i F0.length (fun j hj => ?_) hc
  unfold keyCheck at h
  have h1 := List.all_eq_true.mp h i (List.mem_range.mpr hi)
  have h2 := List.all_eq_true.mp h1 j (List.mem_range.mpr hj)
  exact of_decide_eq_true h2
def partO (facs : List (List Int)) (full : Poly) (k : Nat) : Option Poly :=
  match qextendedO (rowP (otherAt facs k facs.length)) (rowP (facs.getD k [])) with
  | some (_, t, _) => match qmulO (rowP (otherAt facs k facs.length)) t with
    | some m => match qdivmodO m full with
      | some (_, r) => some r
      | none => none
    | none => none
  | none => none
def partCk (facs : List (List Int)) (full : Poly) (parts : List Poly) (k : Nat) : Bool :=
  match qextendedO (rowP (otherAt facs k facs.length)) (rowP (facs.getD k [])) with
  | some (c, t, _) => decide (c = [(1, 1)]) && decide (t.length ≤ 300) && decide ((rowP (otherAt facs k facs.length)).length ≤ 300) && (match qmulO (rowP (otherAt facs k facs.length)) t with
    | some m => decide (m.length ≤ 300) && (match qdivmodO m full with
      | some (_, r) => decide (parts[k]? = some r)
      | none => false)
    | none => false)
  | none => false
def crossCk (full : Poly) (parts : List Poly) (k j : Nat) : Bool :=
  match qmulO (parts.getD k []) (parts.getD j []) with
  | some m => decide (m.length ≤ 300) && (match qdivmodO m full with
    | some (_, r) => decide (r = if j = k then parts.getD k [] else [])
    | none => false)
  | none => false
def totP (parts : List Poly) : Nat → Poly
  | 0 => []
  | k + 1 => (qaddO (totP parts k) (parts.getD k [])).getD []
def lawCk (facs : List (List Int)) (roots : List Int) (full : Poly) (parts : List Poly) : Bool :=
  decide (facs.length ≤ 3) && decide (roots.length ≤ 3) && ((List.range (facs.length + 1)).all fun i => smallI (wholeAt facs i)) && (facs.all fun f => smallI f && decide ((rowP f).length ≤ 300)) &&
  ((List.range facs.length).all fun k => (List.range (facs.length + 1)).all fun j => smallI (otherAt facs k j)) && decide (full = rowP (wholeAt facs facs.length)) && decide (full.length ≤ 300) && decide (parts.length = facs.length) &&
  ((List.range facs.length).all fun k => partCk facs full parts k) && (parts.all fun p => decide (p.length ≤ 300)) && ((List.range facs.length).all fun k => (List.range (k + 1)).all fun j => crossCk full parts k j) &&
  ((List.range facs.length).all fun k => (List.range roots.length).all fun j => decide (qatO (parts.getD k []) (roots.getD j 0, 1) = some (if j = k then 1 else 0, 1))) &&
  ((List.range facs.length).all fun k => decide (qaddO (totP parts k) (parts.getD k []) = some (totP parts (k + 1))) && decide ((totP parts k).length ≤ 300)) && decide (totP parts facs.length = [(1, 1)])
theorem lt_range {α : Type} {l : List α} {k : Nat} {x : α} (h : l[k]? = some x) : k ∈ List.range l.length := List.mem_range.mpr (idx_lt h)
theorem lawCk_ok {facs : List (List Int)} {roots : List Int} {full : Poly} {parts : List Poly} (h : lawCk facs roots full parts = true) : LawPure facs roots full parts (totP parts) := by
  unfold lawCk at h
  simp only [Bool.and_eq_true, List.all_eq_true, decide_eq_true_eq] at h
  obtain ⟨⟨⟨⟨⟨⟨⟨⟨⟨⟨⟨⟨⟨h1, h2⟩, h3⟩, h4⟩, h5⟩, h6⟩, h7⟩, h8⟩, h9⟩, h10⟩, h11⟩, h12⟩, h13⟩, h14⟩ := h
  refine ⟨h1, h2, fun i hi => h3 i (List.mem_range.mpr (by omega)), fun i f hf => h4 f (List.mem_of_getElem? hf), fun k j hk hj => h5 k (List.mem_range.mpr hk) j (List.mem_range.mpr (by omega)), h6, h7, h8, ?_, fun k p hp => h10 p (List.mem_of_getElem? hp), ?_, ?_, rfl, ?_, h14⟩
  · intro k f hf
    have q := h9 k (lt_range hf)
    unfold partCk at q
    rw [getD_of hf] at q
    split at q
    · rename_i c t l e1
      simp only [Bool.and_eq_true, decide_eq_true_eq] at q
      obtain ⟨⟨⟨q1, q2⟩, q3⟩, q4⟩ := q
      split at q4
      · rename_i m e2
        simp only [Bool.and_eq_true, decide_eq_true_eq] at q4
        obtain ⟨q5, q6⟩ := q4
        split at q6
        · rename_i d r e3
          subst q1
          exact ⟨t, l, m, d, r, e1, e2, q2, q5, e3, of_decide_eq_true q6, q3⟩
        · cases q6
      · cases q4
    · cases q
  · intro k j p q' hjk hp hq
    have hk : k < facs.length := by have := idx_lt hp; omega
    have q := h11 k (List.mem_range.mpr hk) j (List.mem_range.mpr (by omega))
    unfold crossCk at q
    rw [getD_of hp, getD_of hq] at q
    split at q
    · rename_i m e1
      simp only [Bool.and_eq_true, decide_eq_true_eq] at q
      obtain ⟨q1, q2⟩ := q
      split at q2
      · rename_i d r e2
        have e3 := of_decide_eq_true q2
        exact ⟨m, d, e1, q1, by rw [e2, e3]⟩
      · cases q2
    · cases q
  · intro k p j r hp hr
    have hk : k < facs.length := by have := idx_lt hp; omega
    have q := h12 k (List.mem_range.mpr hk) j (lt_range hr)
    rw [getD_of hp, getD_of hr] at q
    exact q
  · intro k p hp
    have hk : k < facs.length := by have := idx_lt hp; omega
    have q := h13 k (List.mem_range.mpr hk)
    rw [getD_of hp] at q
    exact q
def numCk (facs : List (List Int)) (F0 : List Int) (D : Int) (ls : List (List Int)) : Bool :=
  decide (facs.length ≤ 3) && decide (0 < D) && okI D && (facs.all fun f => decide (rowP f = PP 1 f) && (f.all fun x => decide (x.natAbs ≤ 64)) && decide (lastI f = 1) && decide (2 ≤ f.length) && decide (f.length ≤ 3) && decide (f.length ≤ F0.length)) &&
  decide (lastI F0 = 1) && (F0.all fun x => decide (x.natAbs ≤ 64)) && decide (3 ≤ F0.length) && decide (F0.length ≤ 4) && decide (ls.length = facs.length) &&
  ((List.range facs.length).all fun k => ((ls.getD k []).all fun x => decide (x.natAbs ≤ 2 ^ 20)) && decide (1 ≤ (ls.getD k []).length) && decide ((ls.getD k []).length ≤ 3) && decide (((facs.getD k []).length - 1) + (ls.getD k []).length - 1 ≤ F0.length)) && keyCheck facs F0 D ls
theorem numCk_ok {facs : List (List Int)} {F0 : List Int} {D : Int} {ls : List (List Int)} (h : numCk facs F0 D ls = true) : Num facs F0 D ls := by
  unfold numCk at h
  simp only [Bool.and_eq_true, List.all_eq_true, decide_eq_true_eq] at h
  obtain ⟨⟨⟨⟨⟨⟨⟨⟨⟨⟨h1, h2⟩, h3⟩, h4⟩, h5⟩, h6⟩, h7⟩, h8⟩, h9⟩, h10⟩, h11⟩ := h
  refine ⟨h1, h2, h3, fun k f hf => ?_, ⟨h5, h6, h7, h8⟩, h9, fun k f l hf hl => ?_, fun c hc i hi => keyCheck_ok h11 c hc i hi⟩
  · obtain ⟨⟨⟨⟨⟨q1, q2⟩, q3⟩, q4⟩, q5⟩, q6⟩ := h4 f (List.mem_of_getElem? hf)
    exact ⟨q1, q2, q3, q4, q5, q6⟩
  · have q := h10 k (lt_range hf)
    rw [getD_of hf, getD_of hl] at q
    obtain ⟨⟨⟨q1, q2⟩, q3⟩, q4⟩ := q
    exact ⟨q1, q2, q3, q4⟩
def denP (ps : List Poly) : Int := ((ps.map fun p => p.map fun q => q.2.natAbs).flatten.foldl Nat.lcm 1 : Nat)
def numP (D : Int) (ps : List Poly) : List (List Int) := ps.map fun p => p.map fun q => q.1 * (D / q.2)
def allCk (facs : List (List Int)) (roots : List Int) : Bool :=
  let F0 := wholeAt facs facs.length
  let full := rowP F0
  let parts := (optMap (partO facs full) (List.range facs.length)).getD []
  let D := denP parts
  let ls := numP D parts
  lawCk facs roots full parts && numCk facs F0 D ls && decide (full = PP 1 F0) && decide (parts = ls.map (PP D))
def LawOne (facs : List (List Int)) (roots : List Int) : Prop := ∃ full parts tot, LawPure facs roots full parts tot ∧ ∀ hs : List Int, hs.length = (wholeAt facs facs.length).length → (∀ x ∈ hs, -3 ≤ x ∧ x ≤ 3) → ∃ back, HPure facs full parts (rowP hs) back
theorem allCk_ok {facs : List (List Int)} {roots : List Int} (h : allCk facs roots = true) : LawOne facs roots := by
  unfold allCk at h
  simp only [Bool.and_eq_true, decide_eq_true_eq] at h
  obtain ⟨⟨⟨h1, h2⟩, h3⟩, h4⟩ := h
  exact ⟨_, _, _, lawCk_ok h1, fun hs hl hb => hpure_of (numCk_ok h2) h3 h4 hs hl hb⟩
theorem three_cases {a : Int} (h0 : 0 ≤ a) (h1 : a < 3) : a = 0 ∨ a = 1 ∨ a = 2 := by omega
theorem two_cases {a : Int} (h0 : 0 ≤ a) (h1 : a < 2) : a = 0 ∨ a = 1 := by omega
theorem law_thm : LawThm := by
  intro facs roots h
  cases h with
  | three a b c a0 a1 b0 b1 c0 c1 =>
    rcases three_cases a0 a1 with rfl | rfl | rfl <;> rcases three_cases b0 b1 with rfl | rfl | rfl <;> rcases two_cases c0 c1 with rfl | rfl <;> exact allCk_ok (by decide +kernel)
  | two a b a0 a1 b0 b1 =>
    rcases three_cases a0 a1 with rfl | rfl | rfl <;> rcases three_cases b0 b1 with rfl | rfl | rfl <;> exact allCk_ok (by decide +kernel)
  | quad a b a0 a1 b0 b1 =>
    rcases three_cases a0 a1 with rfl | rfl | rfl <;> rcases three_cases b0 b1 with rfl | rfl | rfl <;> exact allCk_ok (by decide +kernel)
local macro_rules | `(tactic| walk_at "pyIter ref") => `(tactic| refine Stop.out ?_)
local macro_rules | `(tactic| walk_at "storeName") => `(tactic| (k_dflt (refine' cell_stop ?ck ?_); (case ck => exact rfl)))
local macro_rules | `(tactic| walk_at "my fact") => `(tactic| first | exact ⟨_, _, _, rfl, by walk_at "my lst", by assumption⟩ | exact IntTL.at (by assumption) (by assumption) (by walk_at "my sub"))
local macro_rules | `(tactic| walk_at "call ref") => `(tactic| k_dflt (first | (k_dflt (refine' Sp.useI ?cs ?cr ?cx ?ct ?cf ?cn ?cp ?_); walk_at "my args"; (intro l' n' vs' h' tk' hi' nl' F' N'); k_sweep) | (k_dflt (refine' Sp.useG ?cs ?cr ?cx ?ct ?cf ?cn ?cp ?_); walk_at "my args"; (intro v' h' tk' G' F' N'); k_sweep) | (k_dflt (refine' Sp.useD2 ?cs ?cr ?cx ?ct ?cf ?cn ?cp ?_); walk_at "my args"; (intro t' n' lq' nq' vq' lr' nr' vr' U' h' tk' hU' rq' rr' nlr' F' N'); (try dsimp only [List.cons_append, List.nil_append] at N'); k_sweep)))
local macro_rules | `(tactic| walk_at "my step") => `(tactic| first | (k_unfold; (try dsimp only)) | (walk1; (all_goals try dsimp only)) | (dsimp only; walk1))
local macro_rules | `(tactic| walk_at "compareOp NotEq ref ref") => `(tactic| refine Stop.out ?_)
local macro_rules | `(tactic| walk_at "compareOp Eq ref ref") => `(tactic| refine Stop.out ?_)
local macro_rules | `(tactic| walk_at "call builtin:list.append") => `(tactic| refine Stop.out ?_)
section
local macro_rules | `(tactic| walk_at "subscriptTail Name Slice ref ref") => `(tactic| ((with_reducible show wpAny _ _ (subscriptTail _ _ (Value.ref _) (Value.ref _)) _ _ _); k_dflt (refine' slice_I' ?f ?n ?k1 ?k2 ?k3 ?_ ?k5 ?k6; (case f => assumption); (case n => assumption); (case k1 => assumption); (case k2 => walk_at "my om"); (case k3 => walk_at "my om"); (case k5 => with_unfolding_all rfl); (case k6 => intro _; with_unfolding_all rfl)); (intro D' h' F' N' l1; k_sweep)))
theorem law_body (law_thm : LawThm) (w : World) : ∃ name qual params body scope dV kV doc pm cdv ct oc an od osl, (hd.heap_1 w.params).lookup 178 = some ⟨oc, od, .func (fnOf name qual params body scope dV kV doc pm an cdv ct), osl⟩ ∧ (Stop (LawTail w qual scope body) → LawBody w qual scope body) := by
  k_dflt (refine' LawBody.of2 ?ho ?_)
  case ho => k_is
  intro hTail dp un fr gd f cdv s mean mg mb L h₁ tk cells a vs ns rm X T hL hI hns F N Y
  obtain ⟨oA, oB, oC, rfl, d1, d2, d3⟩ := CellsAre.three Y
  clear Y
  k_fold
  replace d1 : oA.data = .cell none := d1
  replace d2 : oB.data = .cell none := d2
  replace d3 : oC.data = .cell none := d3
  have hvl := hI.length
  walk_at "my steps"
  rename Fr _ _ _ _ => F5
  rename News _ _ _ _ => N5
  have hi9 : IntsAre (vs.take (Int.toNat 9)) (ns.take (Int.toNat 9)) := hI.take _
  have hl9 : (vs.take (Int.toNat 9)).length ≤ 9 := by simp; omega
  generalize vs.take (Int.toNat 9) = us at N5 hi9 hl9
  generalize ns.take (Int.toNat 9) = ks at hi9
  have hul := hi9.length
  refine' Stop.mk (LCg.CompSrc.ledger (k := 0) (its := us.toArray) rfl F5 N5 (.head _) (by simp [sizeLine_eq]; omega) ?rest)
  intro g'
  refine comp_J (fun i ys nw => nw = _ ∧ IntsAre ys (ks.take i)) (fun i ys nw hJ => by obtain ⟨rfl, _⟩ := hJ; exact srcHead) ?turn1 ⟨rfl, .nil⟩ ?fin1
  case turn1 =>
    rintro i v I oI C oC D m₂ ys nw h tk E' hii hv ⟨rfl, hy⟩ hC hx F6 N6 off6
    obtain ⟨k, t, rfl, hk⟩ := IntsAre.at hi9 i v (by simpa using hv)
    clear F5 N5
    walk_at "my steps"
    rename Fr _ _ _ _ => F7
    rename News _ _ _ _ => N7
    refine ⟨_, _, _, rfl, F7, N7, off6, rfl, ?_⟩
    rw [List.take_add_one, hk]
    exact ints_snoc hy
  case fin1 =>
    rintro ys nw ⟨rfl, hy⟩
    rw [show us.toArray.size = ks.length by simpa using hul, List.take_length] at hy
    clear F5 N5
    walk_at "my steps"
    rename Fr _ _ _ _ => F5
    rename News _ _ _ _ => N5
    obtain ⟨DB, DS, M0, hDB, hDS, hBS, hB3, hS3, hBx, N6⟩ := box_init N5 hy (by omega) (by assumption) (by assumption)
    subst hDB hDS
    clear N5
    refine' Stop.mk (cell_R ((L + 1 + 1 + 1, oA) :: (L + 1 + 1, oB) :: M0) F5 N6 rfl d3 (.tail _ (.tail _ (.head _))) ?sub ?hT ?cont rfl rfl)
    case sub =>
      intro e he
      simp only [List.mem_cons] at he ⊢
      rcases he with he | he | he <;> first | walk_at "my or" | simp [he]
    case hT =>
      intro e he
      simp only [List.mem_cons] at he
      rcases he with rfl | rfl | he
      · show L + 1 + 1 + 1 ≠ L + 1
        exact Nat.ne_of_gt (by omega)
      · show L + 1 + 1 ≠ L + 1
        exact Nat.ne_of_gt (by omega)
      · rcases hBx.keys e he with h | h <;> rw [h]
        · exact hB3.2.2
        · exact hS3.2.2
    case cont =>
      intro h9 oC' F9 N9 d4
      clear F5 N6 d3
      walk_at "my steps"
      refine' SpM.use (factors_spec w DB DS hBS M0 hBx) (rm.le (by decide)) X T F9 N9 [(L + 1, oC'), (L + 1 + 1 + 1, oA), (L + 1 + 1, oB)] ?hM ?hr ?hne ?k2
      case hM => exact fun e he => by first | walk_at "my mem" | simp [he]
      case hr =>
        intro e he
        simp only [List.mem_cons, List.not_mem_nil, or_false] at he
        rcases he with he | he | he <;> first | walk_at "my or" | simp [he]
      case hne =>
        intro e he d hd
        simp only [List.mem_cons, List.not_mem_nil, or_false] at he
        rcases hBx.keys d hd with h | h <;> rw [h] <;> rcases he with rfl | rfl | rfl
        · exact hB3.2.2.symm
        · exact hB3.1.symm
        · exact hB3.2.1.symm
        · exact hS3.2.2.symm
        · exact hS3.1.symm
        · exact hS3.2.1.symm
      case k2 =>
        intro v1 M1 h2 tk2 hR F2 N2 _
        clear F9 N9 hBx
        obtain ⟨t1, nt, lf, nf, vf, lr, nr, vr, Tf, B, facs, roots, rfl, N3, hBx, hFL, hiR, hSh, hap⟩ := fac_open hR N2
        clear N2 hR
        obtain ⟨full, parts, tot, hLP, hHP⟩ := law_thm facs roots hSh
        have hvf := hFL.length
        have hvr := hiR.length
        have hn3 := hLP.n3
        have hr3 := hLP.r3
        walk_at "my steps"
        rename Fr _ _ _ _ => F5
        rename News _ _ _ _ => N5
        rename _ < _ ∧ _ < _ ∧ _ < _ ∧ _ < _ ∧ _ < _ ∧ _ < _ ∧ AllLt _ _ => l5
        obtain ⟨lw0, vw0, hlw0, N6, hiw0, hwB0, hwS0⟩ := whole_init N5 hBx (fun d hd => AllLt.mem l5.2.2.2.2.2.2 d (List.mem_append_right _ hd))
        subst hlw0
        clear N5
        refine' Stop.mk (iter_list (σ := WhS) rfl (fun c => [(Str.ofString "factors", .ref lf), (Str.ofString "roots_here", .ref lr), (Str.ofString "whole", .ref c.lw)]) (fun c => (c.lw, lstO c.vw c.nw) :: (L + 1, oC') :: (L + 1 + 1 + 1, oA) :: (L + 1 + 1, oB) :: (t1, tupO #[.ref lf, .ref lr] nt) :: (lf, lstO vf nf) :: (lr, lstO vr nr) :: (Tf ++ B))
          (fun i c => IntsAre c.vw c.ws ∧ c.ws = wholeAt facs i ∧ c.lw ≠ DB ∧ c.lw ≠ DS) ⟨lw0, 0, vw0, [1]⟩ (fun i c hI e he => ?hok) (lst_is (lstN N6 (by k_mem))) (.inr ⟨lstO vf nf, fun i c hI => by k_mem⟩) (lst_ne_L F5 (lstN N6 (by k_mem))) F5 ?hk N6 ⟨hiw0, rfl, hwB0, hwS0⟩ ?turn ?fin)
        case hok =>
          rcases List.mem_cons.mp he with rfl | he
          · exact .inl rfl
          · exact .inr ⟨_, .tail _ he, rfl⟩
        case hk => walk_at "my keys"
        case turn =>
          rintro i v ⟨lw, nw, vw, ws⟩ u own h3 tk3 hv ⟨hiw, rfl, hwB, hwS⟩ ho F6 N7
          dsimp only at hiw hwB hwS F6 N7
          clear F5 N6
          obtain ⟨f1, hf1, hfT⟩ := hFL.get' hv
          have hli := getElem?_lt hf1
          have hw1 := hLP.wholeS i (by omega)
          have hw2 := (hLP.fac i f1 hf1).1
          have hS := fun v v' => times_spec w (wholeAt facs i) f1 (smallI.len hw1) (smallI.len hw2) (smallI.ok hw1) v v'
          replace F6 : Fr s.heap L h3 _ := F6
          replace N7 : News s.heap L h3 ((lw, lstO vw nw) :: (L + 1, oC') :: (L + 1 + 1 + 1, oA) :: (L + 1 + 1, oB) :: (t1, tupO #[.ref lf, .ref lr] nt) :: (lf, lstO vf nf) :: (lr, lstO vr nr) :: (Tf ++ B ++ own)) := N7
          walk_at "my steps"
          rename Fr _ _ _ _ => F7
          rename News _ _ _ _ => N8
          rename IntsAre _ (timesP _ _) => hi7
          rename ∀ (e : Addr × Obj), e ∈ _ → e.1 ≠ _ => nl7
          refine' ⟨⟨_, _, _, _⟩, _, _, _, rfl, F7, ?hk, News.drop2 N8, hi7, (wholeAt_succ hf1).symm, ?nb⟩
          case hk => walk_at "my keys"
          case nb => exact apart_of hBx fun d hd => nl7 d (by simp [hd])
        case fin =>
          rintro ⟨lw, nw, vw, ws⟩ u h3 tk3 ⟨hiw, rfl, hwB, hwS⟩ F6 N7
          dsimp only at hiw hwB hwS F6 N7
          clear F5 N6 hiw0 hwB0 hwS0
          replace F6 : Fr s.heap L h3 _ := F6
          replace N7 : News s.heap L h3 ((lw, lstO vw nw) :: (L + 1, oC') :: (L + 1 + 1 + 1, oA) :: (L + 1 + 1, oB) :: (t1, tupO #[.ref lf, .ref lr] nt) :: (lf, lstO vf nf) :: (lr, lstO vr nr) :: (Tf ++ B)) := N7
          rw [hvf] at hiw
          have hvw := hiw.length
          have hw1 := hLP.wholeS facs.length (Nat.le_refl _)
          have hwl := smallI.len hw1
          have hapW := W1_apart (vw := vw) (nw := nw) (oC := oC') (oA := oA) (oB := oB) (nt := nt) (vf := vf) (nf := nf) (vr := vr) (nr := nr) ⟨hwB, hwS⟩ hB3 hS3 hap
          walk_at "my steps"
          refine' Stop.mk (LCg.CompSrc.ledger (k := nw) (its := vw.toArray) rfl F6 N7 (.head _) (by simp [sizeLine_eq]; omega) ?rest2)
          intro g'
          refine' comp_J (fun i ys nl => ∃ M hs, nl = W1 lw vw nw L oC' oA oB t1 lf lr nt vf nf vr nr Tf ++ M ∧ Box DB DS M ∧ IntsAre ys hs ∧ hs.length = i ∧ ∀ x ∈ hs, -3 ≤ x ∧ x ≤ 3) (fun i ys nl hJ => by obtain ⟨M, hs, rfl, _⟩ := hJ; exact srcHead) ?turn2 ⟨B, [], rfl, hBx, .nil, rfl, fun _ h => nomatch h⟩ ?fin2
          case turn2 =>
            rintro i v I oI C oC D m₂ ys nl h4 tk4 E' hii hv ⟨M, hs, rfl, hBm, hy, hyl, hyb⟩ hC hx F7 N8 off6
            clear F6 N7
            replace N8 : News s.heap L h4 ((I, oI) :: (C, oC) :: (D, LCg.lst ys) :: (lw, lstO vw nw) :: (L + 1, oC') :: (L + 1 + 1 + 1, oA) :: (L + 1 + 1, oB) :: (t1, tupO #[.ref lf, .ref lr] nt) :: (lf, lstO vf nf) :: (lr, lstO vr nr) :: (Tf ++ M)) := N8
            walk_at "my steps"
            refine' take_in (n := 18) (W := W1 lw vw nw L oC' oA oB t1 lf lr nt vf nf vr nr Tf) (fun M hM => take_spec w DB DS hBS M hM 7 (by decide) (by decide) _) (rm.le (by decide)) X T F7 N8 off6 hBm hapW ?k3
            intro x3 tx3 M3 h5 tk5 hx30 hx31 hBm3 F8 N9 off7
            clear F7 N8 off6
            walk_at "my steps"
            rename Fr _ _ _ _ => F9
            rename News _ _ _ _ => N10
            refine ⟨_, _, _, rfl, F9, N10, off7, M3, hs ++ [x3 - 3], rfl, hBm3, ints_snoc hy, by simp [hyl], ?_⟩
            intro x hx
            rcases List.mem_append.mp hx with hx | hx
            · exact hyb x hx
            · rw [List.mem_singleton.mp hx]
              omega
          case fin2 =>
            rintro ys nl ⟨M, hs, rfl, hBm, hy, hyl, hyb⟩
            clear F6 N7
            obtain ⟨back, hH⟩ := hHP hs (by rw [hyl]; simpa using hvw) hyb
            have hS1 := fun v => row_spec w hs (by rw [hyl]; simp; omega) v
            have hS2 := row_spec w (wholeAt facs facs.length) hwl (.ref lw)
            have hW : W1 lw vw nw L oC' oA oB t1 lf lr nt vf nf vr nr Tf ++ M = ((lw, lstO vw nw) :: (L + 1, oC') :: (L + 1 + 1 + 1, oA) :: (L + 1 + 1, oB) :: (t1, tupO #[.ref lf, .ref lr] nt) :: (lf, lstO vf nf) :: (lr, lstO vr nr) :: (Tf ++ M)) := rfl
            rw [hW]
            walk_at "my steps"
            rename Fr _ _ _ _ => F6
            rename News _ _ _ _ => N7
            rename RatsL _ _ _ (rowP hs) => rh
            rename RatsL _ _ _ (rowP (wholeAt _ _)) => rF
            rename _ < _ ∧ _ < _ ∧ _ < _ ∧ _ < _ ∧ _ < _ ∧ _ < _ ∧ _ < _ ∧ _ < _ ∧ _ < _ ∧ _ < _ ∧ AllLt _ _ => l7
            obtain ⟨lP, lF, lh, T0, vF, nF, vh, nh, hlP, hlF, hlh, ⟨hvF, hvh⟩, k1, k0, kf, hnP, hT0P, hsq0, N8⟩ := loopA_init N7 l7
            subst hlP hlF hlh hvF hvh
            have rh0 := k1 _ _ rh
            have rF0 := k0 _ _ rF
            have hFL0 := kf _ _ hFL
            rw [← hLP.fullE] at rF0
            clear N7 k1 k0 kf rh rF l7
            refine' Stop.mk (iter_enum2 (σ := AS) rfl (fun c => [(Str.ofString "factors", .ref lf), (Str.ofString "roots_here", .ref lr), (Str.ofString "h", .ref lh), (Str.ofString "full", .ref lF), (Str.ofString "parts", .ref lP)])
              (fun c => (L + 1 + 1, c.oB) :: (lP, lstO c.vP c.nP) :: (L + 1, oC') :: (L + 1 + 1 + 1, oA) :: (lf, lstO vf nf) :: (lr, lstO vr nr) :: (lh, lstO vh nh) :: (lF, lstO vF nF) :: (T0 ++ c.T))
              (fun k c => (∃ v0, c.oB.data = .cell v0) ∧ PolysL s.heap (T0 ++ c.T) c.vP (parts.take k) ∧ Seqs c.T ∧ ∀ e ∈ c.T, e.1 ≠ lP) ⟨[], 0, oB, []⟩ (fun i c hI e he => ?hokA) (lst_is (lstN N8 (by k_mem))) (.inr ⟨lstO vf nf, fun i c hI => by k_mem⟩) (lst_ne_L F6 (lstN N8 (by k_mem))) F6 ?hkA N8
              ⟨⟨none, d2⟩, trivial, fun _ h => (nomatch h), fun _ h => (nomatch h)⟩ ?turnA ?finA)
            case hokA =>
              simp only [List.mem_cons, List.mem_append] at he
              rcases he with rfl | rfl | rfl | rfl | rfl | rfl | rfl | rfl | he | he
              · exact .inr ⟨_, .head _, rfl⟩
              · exact .inl rfl
              · exact .inr ⟨_, .tail _ (.tail _ (.head _)), rfl⟩
              · exact .inr ⟨_, .tail _ (.tail _ (.tail _ (.head _))), rfl⟩
              · exact .inl rfl
              · exact .inl rfl
              · exact .inl rfl
              · exact .inl rfl
              · exact .inl (hsq0 e he)
              · exact .inl (hI.2.2.1 e he)
            case hkA => walk_at "my keys"
            case turnA =>
              rintro k v TT tt ⟨vP, nP, oB2, T2⟩ u own h6 tk6 hv itt ⟨⟨v0, hdB⟩, hPs, hsqT, hTP⟩ hoo F7 N9
              dsimp only at hdB hPs hsqT hTP F7 N9
              clear F6 N8
              obtain ⟨f1, hf1, hfT⟩ := hFL0.get' hv
              have hk3 := getElem?_lt hf1
              replace F7 : Fr s.heap L h6 _ := F7
              replace N9 : News s.heap L h6 ((L + 1 + 1, oB2) :: (lP, lstO vP nP) :: (L + 1, oC') :: (L + 1 + 1 + 1, oA) :: (lf, lstO vf nf) :: (lr, lstO vr nr) :: (lh, lstO vh nh) :: (lF, lstO vF nF) :: (T0 ++ T2 ++ own)) := N9
              walk_at "my steps"
              rename Fr _ _ _ _ => F8
              rename News _ _ _ _ => N10
              refine' Stop.mk (cell_R ((lP, lstO vP nP) :: (L + 1, oC') :: (L + 1 + 1 + 1, oA) :: (lf, lstO vf nf) :: (lr, lstO vr nr) :: (lh, lstO vh nh) :: (lF, lstO vF nF) :: (T0 ++ T2 ++ own)) F8 N10 rfl hdB (.head _) (fun e he => .tail _ he) ?apA ?coA rfl rfl)
              case apA =>
                intro e he
                have cn : ∀ e ∈ ((L + 1 + 1, oB2) :: (lP, lstO vP nP) :: (L + 1, oC') :: (L + 1 + 1 + 1, oA) :: (lf, lstO vf nf) :: (lr, lstO vr nr) :: (lh, lstO vh nh) :: (lF, lstO vF nF) :: (T0 ++ T2 ++ own) : Ledger), sq e = true → e.1 ≠ L + 1 + 1 := fun e he hs => cell_ne N10 (.head _) hdB he hs
                have he' := he
                simp only [List.mem_cons, List.mem_append] at he'
                rcases he' with rfl | rfl | rfl | rfl | rfl | rfl | rfl | (he' | he') | he'
                · exact cn _ (.tail _ he) rfl
                · show L + 1 ≠ L + 1 + 1
                  exact Nat.ne_of_lt (by omega)
                · show L + 1 + 1 + 1 ≠ L + 1 + 1
                  exact Nat.ne_of_gt (by omega)
                · exact cn _ (.tail _ he) rfl
                · exact cn _ (.tail _ he) rfl
                · exact cn _ (.tail _ he) rfl
                · exact cn _ (.tail _ he) rfl
                · exact cn _ (.tail _ he) (hsq0 e he')
                · exact cn _ (.tail _ he) (hsqT e he')
                · exact ((hoo e he').2 _ (.head _)).symm
              case coA =>
                intro h7 oB3 F9 N11 hdB3
                clear F8 N10
                walk_at "my steps"
                rename Fr _ _ _ _ => F10
                rename News _ _ _ _ => N12
                obtain ⟨lo0, vo0, hlo0, N13, hio0⟩ := one_init N12
                subst hlo0
                clear N12
                refine' Stop.mk (iter_enum2 (σ := BS) rfl (fun c => [(Str.ofString "factors", .ref lf), (Str.ofString "roots_here", .ref lr), (Str.ofString "h", .ref lh), (Str.ofString "full", .ref lF), (Str.ofString "parts", .ref lP), (Str.ofString "factor", v), (Str.ofString "other", .ref c.lo)])
                  (fun c => (c.lo, lstO c.vo c.no) :: (L + 1 + 1, oB3) :: (lP, lstO vP nP) :: (L + 1, oC') :: (L + 1 + 1 + 1, oA) :: (lf, lstO vf nf) :: (lr, lstO vr nr) :: (lh, lstO vh nh) :: (lF, lstO vF nF) :: (T0 ++ T2 ++ own))
                  (fun j c => IntsAre c.vo c.ws ∧ c.ws = otherAt facs k j) ⟨lo0, 0, vo0, [1]⟩ (fun i c hI e he => ?hokB) (lst_is (lstN N13 (by k_mem))) (.inr ⟨lstO vf nf, fun i c hI => by k_mem⟩) (lst_ne_L F10 (lstN N13 (by k_mem))) F10 ?hkB N13
                  ⟨hio0, rfl⟩ ?turnB ?finB)
                case hokB =>
                  rcases List.mem_cons.mp he with rfl | he
                  · exact .inl rfl
                  · exact .inr ⟨_, .tail _ he, rfl⟩
                case hkB => walk_at "my keys"
                case turnB =>
                  rintro j v2 TT2 tt2 ⟨lo, no, vo, ws⟩ u2 own2 h8 tk8 hv2 itt2 ⟨hio, rfl⟩ hoo2 F11 N14
                  dsimp only at hio F11 N14
                  clear F10 N13 hio0
                  obtain ⟨f2, hf2, hfT2⟩ := hFL0.get' hv2
                  have hj3 := getElem?_lt hf2
                  have hw1 := hLP.otherS k j hk3 (by omega)
                  have hw2 := (hLP.fac j f2 hf2).1
                  have hS := times_spec w (otherAt facs k j) f2 (smallI.len hw1) (smallI.len hw2) (smallI.ok hw1) (.ref lo) v2
                  replace F11 : Fr s.heap L h8 _ := F11
                  replace N14 : News s.heap L h8 ((lo, lstO vo no) :: (L + 1 + 1, oB3) :: (lP, lstO vP nP) :: (L + 1, oC') :: (L + 1 + 1 + 1, oA) :: (lf, lstO vf nf) :: (lr, lstO vr nr) :: (lh, lstO vh nh) :: (lF, lstO vF nF) :: (T0 ++ T2 ++ own ++ own2)) := N14
                  walk_at "my steps"
                  · rename Fr _ _ _ _ => F12
                    rename News _ _ _ _ => N15
                    rename IntsAre _ (timesP _ _) => hi12
                    rename (j : Int) ≠ (k : Int) => hjk
                    refine' ⟨⟨_, _, _, _⟩, _, _, _, rfl, F12, ?hkB2, News.drop2 N15, hi12, ?wsB⟩
                    case hkB2 => walk_at "my keys"
                    case wsB =>
                      rw [otherAt_succ hf2]
                      unfold otherStep
                      rw [if_neg (fun e : j = k => hjk (by rw [e]))]
                      rfl
                  · rename Fr _ _ _ _ => F12
                    rename News _ _ _ _ => N15
                    rename (j : Int) = (k : Int) => hjk
                    refine' ⟨⟨lo, no, vo, _⟩, _, _, _, rfl, F12, ?hkB3, N15, hio, ?wsB2⟩
                    case hkB3 => walk_at "my keys"
                    case wsB2 =>
                      rw [otherAt_succ hf2]
                      unfold otherStep
                      rw [if_pos (show j = k by omega)]
                      rfl
                case finB =>
                  rintro ⟨lo, no, vo, ws⟩ u2 h8 tk8 ⟨hio, rfl⟩ F11 N14
                  dsimp only at hio F11 N14
                  clear F10 N13 hio0
                  rw [hvf] at hio
                  replace F11 : Fr s.heap L h8 _ := F11
                  replace N14 : News s.heap L h8 ((lo, lstO vo no) :: (L + 1 + 1, oB3) :: (lP, lstO vP nP) :: (L + 1, oC') :: (L + 1 + 1 + 1, oA) :: (lf, lstO vf nf) :: (lr, lstO vr nr) :: (lh, lstO vh nh) :: (lF, lstO vF nF) :: (T0 ++ T2 ++ own)) := N14
                  obtain ⟨t, l, m, q, r, e1, e2, e3, e4, e5, e6, e7⟩ := hLP.partS k f1 hf1
                  have hoo1 := hLP.otherS k facs.length hk3 (Nat.le_refl _)
                  have hff := hLP.fac k f1 hf1
                  have hS1 := row_spec w (otherAt facs k facs.length) (smallI.len hoo1) (.ref lo)
                  have hS2 := row_spec w f1 (smallI.len hff.1) v
                  have hS3 := fun v v' => qextended_spec w (rowP (otherAt facs k facs.length)) (rowP f1) _ e1 e7 hff.2 v v'
                  have hS4 := fun v v' => qmul_spec w (rowP (otherAt facs k facs.length)) t m e2 (by omega) (by omega) v v'
                  have hS5 := fun v v' => qdivmod_spec w m full (q, r) e5 e4 hLP.full3 v v'
                  walk_at "my steps"
                  rename Fr _ _ _ _ => F16
                  rename News _ _ _ _ => N16
                  refine' Stop.mk (cmpNe_P (p := [(1, 1)]) (q := [(1, 1)]) ?cmA ?cmB (Rm.cmp rm) ?cmC)
                  case cmA => exact PolyAt.ofLed N16 F16.keep (.tail _ (.tail _ (.tail _ (.head _)))) (by assumption) (by walk_at "my sub")
                  case cmB => exact one_at N16
                  case cmC =>
                    simp only [decide_true, Bool.not_true]
                    skip
                    walk_at "my steps"
                    rename Fr _ _ _ _ => F17
                    rename News _ _ _ _ => N17
                    rename RatsL _ _ _ (Prod.snd _) => rr17
                    rename Tups _ => hU17
                    rename ∀ (e : Addr × Obj), e ∈ _ → e.1 ≠ _ => nl17
                    refine' Stop.mk (appendA ((L + 1 + 1, oB3) :: (L + 1, oC') :: (L + 1 + 1 + 1, oA) :: (lf, lstO vf nf) :: (lr, lstO vr nr) :: (lh, lstO vh nh) :: (lF, lstO vF nF) :: (T0 ++ T2 ++ own)) F17 N17 (by k_mem) (.tail _ (.tail _ (.head _))) hU17 (by walk_at "my sub") rr17 ?fxA ?fpA ?rpA ?vpA ?apA2)
                    case fxA =>
                      intro e he
                      simp only [List.mem_cons, List.mem_append] at he ⊢
                      rcases he with he | he | he | he | he | he | he | (he | he) | he <;> first | walk_at "my or" | simp [he]
                    case fpA =>
                      intro e he
                      simp only [List.mem_cons, List.mem_append] at he
                      rcases he with rfl | rfl | rfl | rfl | rfl | rfl | rfl | (he | he) | he
                      · exact hnP.2.2.2.2.2.1
                      · exact hnP.2.2.2.2.1
                      · exact hnP.2.2.2.2.2.2
                      · exact hnP.2.2.1
                      · exact hnP.2.2.2.1
                      · exact hnP.2.1
                      · exact hnP.1
                      · exact hT0P e he
                      · exact hTP e he
                      · exact ((hoo e he).2 _ (.tail _ (.head _))).symm
                    case rpA => exact (nl17 (lP, lstO vP nP) (by k_mem)).symm
                    case vpA =>
                      have := hPs.length
                      simp at this
                      omega
                    case apA2 =>
                      intro h18 new v18 F18 N18 hsqN hNP hPL
                      clear F17 N17
                      walk_at "my steps"
                      have hpt := partsTake e6
                      have hP1 : PolysL s.heap (T0 ++ (T2 ++ new)) vP (parts.take k) := hPs.mono fun e he => by
                        rcases List.mem_append.mp he with he | he <;> first | walk_at "my or" | simp [he]
                      have hP2 : PolysL s.heap (T0 ++ (T2 ++ new)) [v18] [r] := ⟨hPL.mono fun e he => by first | walk_at "my mem" | simp [he], trivial⟩
                      refine' ⟨⟨vP ++ [v18], nP + 1, oB3, T2 ++ new⟩, _, _, _, rfl, F18, ?hkA2, News.mono N18 ?nsA, ⟨⟨_, hdB3⟩, ?poA, hsqT.append hsqN, ?apA3⟩⟩
                      case hkA2 => walk_at "my keys"
                      case nsA =>
                        intro e he
                        simp only [List.mem_append, List.mem_cons] at he ⊢
                        rcases he with (he | he | he | he | he | he | he | he | he | he | he) | he <;> first | walk_at "my or" | simp [he]
                      case poA =>
                        dsimp only
                        rw [hpt]
                        exact hP1.append hP2
                      case apA3 =>
                        intro e he
                        rcases List.mem_append.mp he with he | he
                        · exact hTP e he
                        · exact hNP e he
            case finA =>
              rintro ⟨vP, nP, oB2, T2⟩ u h6 tk6 ⟨⟨v0, hdB⟩, hPs, hsqT, hTP⟩ F7 N9
              dsimp only at hdB hPs hsqT hTP F7 N9
              clear F6 N8
              rw [hvf, show parts.take facs.length = parts by rw [← hLP.partsL, List.take_length]] at hPs
              replace F7 : Fr s.heap L h6 _ := F7
              replace N9 : News s.heap L h6 ((L + 1 + 1, oB2) :: (lP, lstO vP nP) :: (L + 1, oC') :: (L + 1 + 1 + 1, oA) :: (lf, lstO vf nf) :: (lr, lstO vr nr) :: (lh, lstO vh nh) :: (lF, lstO vF nF) :: (T0 ++ T2)) := N9
              have mT : ∀ e ∈ T0, e ∈ T0 ++ T2 := fun e he => List.mem_append_left _ he
              k_dflt (refine' hTail.out dp un fr gd f cdv s mean mg mb L h6 tk6 facs roots full parts tot (rowP hs) back oA oB2 oC' lP lf lr lh lF nP nf nr nh nF vP vf vr vh vF (T0 ++ T2) u rm X T hLP hH ⟨v0, hdB⟩ d1 hPs (rh0.mono mT) (rF0.mono mT) (hFL0.mono mT) hiR (Seqs.append hsq0 hsqT) F7 N9)
end
section
theorem FacL.got {T : Ledger} {vs : List Value} {p : List (List Int)} {k : Nat} {v : Value} {f : List Int} (x : FacL T vs p) (e : p[k]? = some f) (h : vs[(k : Int).toNat]? = some v) : IntTL T v f := by
  rw [Int.toNat_natCast] at h
  obtain ⟨f', e', r⟩ := x.get' h
  rw [e] at e'
  cases e'
  exact r
local macro_rules | `(tactic| walk_at "my got") => `(tactic| ((rename _ = some _ => hv9); k_dflt (have hT9 := FacL.got (by assumption) (by assumption) hv9)))
local macro_rules | `(tactic| walk_at "my fact") => `(tactic| exact RatAt.ofNews (by assumption) (.head _) rfl)
theorem law_tail (w : World) : ∃ name qual params body scope dV kV doc pm cdv ct oc an od osl, (hd.heap_1 w.params).lookup 178 = some ⟨oc, od, .func (fnOf name qual params body scope dV kV doc pm an cdv ct), osl⟩ ∧ LawTail w qual scope body := by
  k_dflt (refine' LawTail.of ?ho ?_)
  case ho => k_is
  intro dp un fr gd f cdv s mean mg mb L h₁ tk facs roots full parts tot hp back oA oB oC lP lf lr lh lF nP nf nr nh nF vP vf vr vh vF T u rm X Tp hLP hH hdB d1 hPs rh0 rF0 hFL0 hiR hsq0 F N
  dsimp only [tl7]
  k_fold
  have hvf := hFL0.length
  have hvr := hiR.length
  have hvP := hPs.length
  have hn3 := hLP.n3
  have hr3 := hLP.r3
  have hpl := hLP.partsL
  walk_at "my steps"
  rename Fr _ _ _ _ => F8
  rename News _ _ _ _ => N8
  obtain ⟨vt0, vb0, T30, ht0, hb0, pt0, pb0, sq30, N9⟩ := loopC_init N8
  clear N8
  rw [← ht0, ← hb0] at F8
  refine' Stop.mk (iter_enum2 (σ := CS) rfl (fun c => [(Str.ofString "factors", .ref lf), (Str.ofString "roots_here", .ref lr), (Str.ofString "h", .ref lh), (Str.ofString "full", .ref lF), (Str.ofString "parts", .ref lP), (Str.ofString "total", c.vt), (Str.ofString "back", c.vb)])
    (fun c => (L + 1 + 1, c.oB) :: (L + 1 + 1 + 1, c.oA) :: (L + 1, oC) :: (lP, lstO vP nP) :: (lf, lstO vf nf) :: (lr, lstO vr nr) :: (lh, lstO vh nh) :: (lF, lstO vF nF) :: (T ++ c.T))
    (fun k c => (∃ v0, c.oB.data = .cell v0) ∧ (∃ v0, c.oA.data = .cell v0) ∧ PolyL s.heap (T ++ c.T) c.vt (tot k) ∧ PolyL s.heap (T ++ c.T) c.vb (back k) ∧ Seqs c.T) ⟨vt0, vb0, oB, oA, T30⟩ (fun i c hI e he => ?hokC) (lst_is (lstN N9 (by k_mem))) (.inr ⟨lstO vP nP, fun i c hI => by k_mem⟩) (lst_ne_L F8 (lstN N9 (by k_mem))) F8 ?hkC N9
    ⟨hdB, ⟨none, d1⟩, (by rw [hLP.tot0]; exact pt0), (by rw [hH.b0]; exact pb0), sq30⟩ ?turnC ?finC)
  case hokC =>
    simp only [List.mem_cons, List.mem_append] at he
    rcases he with rfl | rfl | rfl | rfl | rfl | rfl | rfl | rfl | he | he
    · exact .inr ⟨_, .head _, rfl⟩
    · exact .inr ⟨_, .tail _ (.head _), rfl⟩
    · exact .inr ⟨_, .tail _ (.tail _ (.head _)), rfl⟩
    · exact .inl rfl
    · exact .inl rfl
    · exact .inl rfl
    · exact .inl rfl
    · exact .inl rfl
    · exact .inl (hsq0 e he)
    · exact .inl (hI.2.2.2.2 e he)
  case hkC => walk_at "my keys"
  case turnC =>
    rintro k v TT tt ⟨vt, vb, oB2, oA2, T2⟩ own0 own h6 tk6 hv itt ⟨⟨v0, hdB2⟩, ⟨v1, hdA2⟩, hpt, hpb, hsqT⟩ hoo F7 N10
    dsimp only at hdB2 hdA2 hpt hpb hsqT F7 N10
    clear F8 N9 pt0 pb0 ht0 hb0
    obtain ⟨p, hpk, hpL⟩ := hPs.get hv
    have hk3 := getElem?_lt hpk
    replace F7 : Fr s.heap L h6 _ := F7
    replace N10 : News s.heap L h6 ((L + 1 + 1, oB2) :: (L + 1 + 1 + 1, oA2) :: (L + 1, oC) :: (lP, lstO vP nP) :: (lf, lstO vf nf) :: (lr, lstO vr nr) :: (lh, lstO vh nh) :: (lF, lstO vF nF) :: (T ++ T2 ++ own)) := N10
    obtain ⟨lp, np, vp, rfl, hpm, hpr⟩ := hpL
    have hpL : PolyL s.heap T (.ref lp) p := ⟨lp, np, vp, rfl, hpm, hpr⟩
    obtain ⟨f1, hf1⟩ : ∃ f1, facs[k]? = some f1 := ⟨_, List.getElem?_eq_getElem (by omega)⟩
    obtain ⟨q1, r1, m1, e1, e2, e3, e4, e5, e6⟩ := hH.bS k f1 p hf1 hpk
    have hff := hLP.fac k f1 hf1
    have hS1 := qadd_spec w (tot k) p (tot (k + 1)) (hLP.totS k p hpk).1 (Nat.le_trans (hLP.totS k p hpk).2 (by decide)) (Nat.le_trans (hLP.small k p hpk) (by decide)) vt (.ref lp)
    have hS2 := fun v => row_spec w f1 (smallI.len hff.1) v
    have hS3 := fun v => qdivmod_spec w hp (rowP f1) (q1, r1) e1 hH.h3 hff.2 (.ref lh) v
    have hS4 := fun v => qmul_spec w r1 p m1 e2 (by omega) (by have := hLP.small k p hpk; omega) v (.ref lp)
    have hS5 := fun v => qadd_spec w (back k) m1 (back (k + 1)) e5 (by omega) (by omega) vb v
    walk_at "my steps"
    rename Fr _ _ _ _ => F8
    rename News _ _ _ _ => N11
    refine' Stop.mk (cell_R ((L + 1 + 1 + 1, oA2) :: (L + 1, oC) :: (lP, lstO vP nP) :: (lf, lstO vf nf) :: (lr, lstO vr nr) :: (lh, lstO vh nh) :: (lF, lstO vF nF) :: (T ++ T2 ++ own)) F8 N11 rfl hdB2 (.head _) (fun e he => .tail _ he) ?apC1 ?coC1 rfl rfl)
    case apC1 =>
      intro e he
      have cn : ∀ e ∈ ((L + 1 + 1, oB2) :: (L + 1 + 1 + 1, oA2) :: (L + 1, oC) :: (lP, lstO vP nP) :: (lf, lstO vf nf) :: (lr, lstO vr nr) :: (lh, lstO vh nh) :: (lF, lstO vF nF) :: (T ++ T2 ++ own) : Ledger), sq e = true → e.1 ≠ L + 1 + 1 := fun e he hs => cell_ne N11 (.head _) hdB2 he hs
      have he' := he
      simp only [List.mem_cons, List.mem_append] at he'
      rcases he' with rfl | rfl | rfl | rfl | rfl | rfl | rfl | (he' | he') | he'
      · show L + 1 + 1 + 1 ≠ L + 1 + 1
        exact Nat.ne_of_gt (by omega)
      · show L + 1 ≠ L + 1 + 1
        exact Nat.ne_of_lt (by omega)
      · exact cn _ (.tail _ he) rfl
      · exact cn _ (.tail _ he) rfl
      · exact cn _ (.tail _ he) rfl
      · exact cn _ (.tail _ he) rfl
      · exact cn _ (.tail _ he) rfl
      · exact cn _ (.tail _ he) (hsq0 e he')
      · exact cn _ (.tail _ he) (hsqT e he')
      · exact ((hoo e he').2 _ (.head _)).symm
    case coC1 =>
      intro h7 oB3 F9 N12 hdB3
      clear F8 N11
      walk_at "my steps"
      rename Fr _ _ _ _ => F10
      rename News _ _ _ _ => N13
      refine' Stop.mk (cell_R ((L + 1 + 1, oB3) :: (L + 1, oC) :: (lP, lstO vP nP) :: (lf, lstO vf nf) :: (lr, lstO vr nr) :: (lh, lstO vh nh) :: (lF, lstO vF nF) :: (T ++ T2 ++ own)) F10 N13 rfl hdA2 (.tail _ (.head _)) ?suC2 ?apC2 ?coC2 rfl rfl)
      case suC2 =>
        intro e he
        rcases List.mem_cons.mp he with rfl | he
        · exact .head _
        · exact .tail _ (.tail _ he)
      case apC2 =>
        intro e he
        have cn : ∀ e ∈ ((L + 1 + 1, oB3) :: (L + 1 + 1 + 1, oA2) :: (L + 1, oC) :: (lP, lstO vP nP) :: (lf, lstO vf nf) :: (lr, lstO vr nr) :: (lh, lstO vh nh) :: (lF, lstO vF nF) :: (T ++ T2 ++ own) : Ledger), sq e = true → e.1 ≠ L + 1 + 1 + 1 := fun e he hs => cell_ne N13 (.tail _ (.head _)) hdA2 he hs
        rcases List.mem_cons.mp he with rfl | he
        · show L + 1 + 1 ≠ L + 1 + 1 + 1
          exact Nat.ne_of_lt (by omega)
        have hm := List.mem_cons_of_mem (L + 1 + 1, oB3) (List.mem_cons_of_mem (L + 1 + 1 + 1, oA2) he)
        simp only [List.mem_cons, List.mem_append] at he
        rcases he with rfl | rfl | rfl | rfl | rfl | rfl | (he | he) | he
        · show L + 1 ≠ L + 1 + 1 + 1
          exact Nat.ne_of_lt (by omega)
        · exact cn _ hm rfl
        · exact cn _ hm rfl
        · exact cn _ hm rfl
        · exact cn _ hm rfl
        · exact cn _ hm rfl
        · exact cn _ hm (hsq0 e he)
        · exact cn _ hm (hsqT e he)
        · exact ((hoo e he).2 _ (.tail _ (.head _))).symm
      case coC2 =>
        intro h8 oA3 F11 N14 hdA3
        clear F10 N13
        walk_at "my steps"
        rename Fr _ _ _ _ => F12
        rename News _ _ _ _ => N15
        rename RatsL _ _ _ (tot (k + 1)) => rt
        rename RatsL _ _ _ (back (k + 1)) => rb
        obtain ⟨lS, Tn, hlS, pt1, pb1, sqn, N16⟩ := loopD_init N15 rt rb
        subst hlS
        clear N15 rt rb hS1 hS2 hS3 hS4 hS5
        generalize hvS : List.take ((k : Int) + 1).toNat vP = vS at N16
        refine' Stop.mk (iter_enum2 (σ := Unit) rfl (fun _ => [(Str.ofString "factors", .ref lf), (Str.ofString "roots_here", .ref lr), (Str.ofString "h", .ref lh), (Str.ofString "full", .ref lF), (Str.ofString "parts", .ref lP), (Str.ofString "total", .ref _), (Str.ofString "back", .ref _)])
          (fun _ => (lS, lstO vS 0) :: (L + 1 + 1 + 1, oA3) :: (L + 1 + 1, oB3) :: (L + 1, oC) :: (lP, lstO vP nP) :: (lf, lstO vf nf) :: (lr, lstO vr nr) :: (lh, lstO vh nh) :: (lF, lstO vF nF) :: (T ++ (T2 ++ Tn) ++ own))
          (fun _ _ => True) () (fun i c hI e he => .inr ⟨e, he, rfl⟩) (lst_is (lstN N16 (by k_mem))) (.inr ⟨lstO vS 0, fun i c hI => by k_mem⟩) (lst_ne_L F12 (lstN N16 (by k_mem))) F12 ?hkD N16 True.intro ?turnD ?finD)
        case hkD => walk_at "my keys"
        case turnD =>
          rintro j v2 TT2 tt2 ⟨⟩ u2 own2 h9 tk9 hv2 itt2 _ hoo2 F13 N17

          clear F12 N16 pt1 pb1
          rw [← hvS] at hv2
          obtain ⟨hjk, hv3⟩ := take_got hv2
          obtain ⟨q, hqj, hqL⟩ := hPs.get hv3
          obtain ⟨l2, n2, vq2, rfl, hqm, hqr⟩ := hqL
          have hqL : PolyL s.heap T (.ref l2) q := ⟨l2, n2, vq2, rfl, hqm, hqr⟩
          obtain ⟨m2, d2, c1, c2, c3⟩ := hLP.cross k j p q hjk hpk hqj
          have hS1 := qmul_spec w p q m2 c1 (by have := hLP.small k p hpk; omega) (by have := hLP.small j q hqj; omega) (.ref lp) (.ref l2)
          have hS2 := fun v => qdivmod_spec w m2 full (d2, if j = k then p else []) c3 c2 hLP.full3 v (.ref lF)
          replace F13 : Fr s.heap L h9 _ := F13
          replace N17 : News s.heap L h9 ((lS, lstO vS 0) :: (L + 1 + 1 + 1, oA3) :: (L + 1 + 1, oB3) :: (L + 1, oC) :: (lP, lstO vP nP) :: (lf, lstO vf nf) :: (lr, lstO vr nr) :: (lh, lstO vh nh) :: (lF, lstO vF nF) :: (T ++ (T2 ++ Tn) ++ own ++ own2)) := N17
          walk_at "my steps"
          · rename Fr _ _ _ _ => F14
            rename News _ _ _ _ => N18
            rename (j : Int) = (k : Int) => hjk2
            rename RatsL _ _ _ (Prod.snd _) => rr9
            have hjk3 : j = k := by omega
            dsimp only at rr9
            rw [if_pos hjk3] at rr9
            refine' Stop.mk (cmpNe_P (p := p) (q := p) ?dA ?dB (Rm.cmp rm) ?dC)
            case dA => exact PolyAt.ofLed N18 F14.keep (.tail _ (.tail _ (.head _))) rr9 (by walk_at "my sub")
            case dB => exact hpL.at F14.keep N18 (by walk_at "my sub")
            case dC =>
              simp only [decide_true, Bool.not_true]
              walk_at "my steps"
              rename Fr _ _ _ _ => F15
              rename News _ _ _ _ => N19
              refine' ⟨(), _, _, _, rfl, F15, ?hkD2, News.front [_, _, _, _] _ _ N19, True.intro⟩
              case hkD2 => walk_at "my keys"
          · rename Fr _ _ _ _ => F14
            rename News _ _ _ _ => N18
            rename (j : Int) ≠ (k : Int) => hjk2
            rename RatsL _ _ _ (Prod.snd _) => rr9
            have hjk3 : ¬ j = k := by omega
            dsimp only at rr9
            rw [if_neg hjk3] at rr9
            refine' Stop.mk (cmpNe_P (p := []) (q := []) ?dA2 ?dB2 (Rm.cmp rm) ?dC2)
            case dA2 => exact PolyAt.ofLed N18 F14.keep (.tail _ (.tail _ (.tail _ (.head _)))) rr9 (by walk_at "my sub")
            case dB2 => exact ⟨_, 0, [], rfl, (N18 _ (.head _)).1, trivial⟩
            case dC2 =>
              simp only [decide_true, Bool.not_true]
              walk_at "my steps"
              rename Fr _ _ _ _ => F15
              rename News _ _ _ _ => N19
              refine' ⟨(), _, _, _, rfl, F15, ?hkD3, News.front [_, _, _, _, _] _ _ N19, True.intro⟩
              case hkD3 => walk_at "my keys"
        case finD =>
          rintro ⟨⟩ u2 h9 tk9 _ F13 N17

          clear F12 N16
          replace F13 : Fr s.heap L h9 _ := F13
          replace N17 : News s.heap L h9 ((lS, lstO vS 0) :: (L + 1 + 1 + 1, oA3) :: (L + 1 + 1, oB3) :: (L + 1, oC) :: (lP, lstO vP nP) :: (lf, lstO vf nf) :: (lr, lstO vr nr) :: (lh, lstO vh nh) :: (lF, lstO vF nF) :: (T ++ (T2 ++ Tn) ++ own)) := N17
          walk_at "my steps"
          refine' Stop.mk (LCg.CompSrc.ledger (k := nr) (its := vr.toArray) rfl F13 N17 (by k_mem) (by simp [sizeLine_eq]; omega) ?restE)
          intro g'
          refine' comp_rats2 (fun i => ((if i = k then 1 else 0 : Int), 1)) (fun T => .inr ⟨lstO vr nr, by k_mem, rfl, _, rfl⟩) ?turnE ?finE
          case turnE =>
            intro i v I oI C oC D m₂ ys T9 h tk E' hii hv9 hC hx F14 N18
            obtain ⟨r, tr, rfl, hr⟩ := IntsAre.at hiR i v (by simpa using hv9)
            have hS1 := fun u => qat_spec w p (r, 1) _ (hLP.root k p i r hpk hr) (by have := hLP.small k p hpk; omega) (.ref lp) u
            clear F13 N17 pt1 pb1
            walk_at "my steps"
            rename Fr _ _ _ _ => F15
            rename News _ _ _ _ => N19
            rename GotG _ _ _ _ _ _ => G9
            rcases G9 with ⟨t9, o9, rfl, ho9, hap9, N20⟩ | ⟨rfl, hq9⟩
            · exact ⟨_, _, rfl, F15, .inl ⟨t9, o9, News.drop2 N20, rfl, ho9, fun e he => hap9 e (.tail _ he)⟩⟩
            · exact ⟨_, _, rfl, F15, .inr ⟨News.mono N19 (fun e he => .tail _ he), by rw [hq9]; exact R0_at X⟩⟩
          case finE =>
            intro T9 ys hT9 hy9
            rw [show vr.toArray.size = roots.length by simpa using hvr] at hy9
            clear F13 N17
            walk_at "my steps"
            rename Fr _ _ _ _ => F14
            rename News _ _ _ _ => N18
            rename IsRange _ _ _ _ _ _ _ _ => hR
            refine' Stop.mk (LCg.CompSrc.range (n := roots.length) rfl F14 N18 hR (rangeN_small _ (by omega)) (rangeN_size _) (by rw [sizeLine_eq]; omega) ?restG)
            intro g'
            refine' comp_rats2 (fun i => ((if i = k then 1 else 0 : Int), 1)) (fun T => True.intro) ?turnG ?finG
            case turnG =>
              intro i v I oI C oC D m₂ ys2 T8 h tk E' hii hv9 hC hx F15 N19
              obtain ⟨t8, rfl⟩ := hv9
              clear F14 N18 pt1 pb1
              walk_at "my steps"
              · rename Fr _ _ _ _ => F16
                rename News _ _ _ _ => N20
                rename 0 + (i : Int) = (k : Int) => hik
                rename I < _ ∧ _ => l7
                exact ⟨_, _, rfl, F16, .inl ⟨_, _, N20, rfl, (by rw [if_pos (show i = k by omega)]; exact RatObj.tup), AllLt.ne (l := (I, oI) :: (C, oC) :: (D, LCg.lst ys2) :: _) l7⟩⟩
              · rename Fr _ _ _ _ => F16
                rename News _ _ _ _ => N20
                rename 0 + (i : Int) ≠ (k : Int) => hik
                rename I < _ ∧ _ => l7
                exact ⟨_, _, rfl, F16, .inl ⟨_, _, N20, rfl, (by rw [if_neg (show ¬ i = k by omega)]; exact RatObj.tup), AllLt.ne (l := (I, oI) :: (C, oC) :: (D, LCg.lst ys2) :: _) l7⟩⟩
            case finG =>
              intro T8 ys2 hT8 hy8
              clear F14 N18
              walk_at "my steps"
              rename Fr _ _ _ _ => F16
              rename News _ _ _ _ => N20
              refine' Stop.mk (cmpNe_P (p := (List.range roots.length).map fun i => ((if i = k then 1 else 0 : Int), 1)) (q := (List.range roots.length).map fun i => ((if i = k then 1 else 0 : Int), 1)) ?gA ?gB (Rm.cmp rm) ?gC)
              case gA => exact PolyAt.ofLed N20 F16.keep (by k_mem) hy9 (by walk_at "my sub")
              case gB => exact PolyAt.ofLed N20 F16.keep (by k_mem) hy8 (by walk_at "my sub")
              case gC =>
                simp only [decide_true, Bool.not_true]
                walk_at "my steps"
                rename Fr _ _ _ _ => F17
                rename News _ _ _ _ => N21
                refine' ⟨⟨.ref _, .ref _, oB3, oA3, T2 ++ Tn⟩, _, _, _, rfl, F17, ?hkC2, News.mono N21 ?nsC, ⟨⟨_, hdB3⟩, ⟨_, hdA3⟩, pt1, pb1, hsqT.append sqn⟩⟩
                case hkC2 => walk_at "my keys"
                case nsC =>
                  intro e he
                  simp only [List.mem_append, List.mem_cons] at he ⊢
                  rcases he with (he | he | he | he | he | he | he | he | he) | he <;> first | walk_at "my or" | simp [he]
  case finC =>
    rintro ⟨vt, vb, oB2, oA2, T2⟩ own0 h6 tk6 ⟨⟨v0, hdB2⟩, ⟨v1, hdA2⟩, hpt, hpb, hsqT⟩ F7 N10
    dsimp only at hdB2 hdA2 hpt hpb hsqT F7 N10
    clear F8 N9 pt0 pb0 ht0 hb0
    replace F7 : Fr s.heap L h6 _ := F7
    replace N10 : News s.heap L h6 ((L + 1 + 1, oB2) :: (L + 1 + 1 + 1, oA2) :: (L + 1, oC) :: (lP, lstO vP nP) :: (lf, lstO vf nf) :: (lr, lstO vr nr) :: (lh, lstO vh nh) :: (lF, lstO vF nF) :: (T ++ T2)) := N10
    walk_at "my steps"
    rename Fr _ _ _ _ => F8
    rename News _ _ _ _ => N11
    rw [hvP, hpl] at hpt hpb
    refine' cmpEq_P (p := [(1, 1)]) (q := [(1, 1)]) ?eA1 ?eB1 (Rm.cmp rm) ?eC1
    case eA1 =>
      rw [hLP.totE] at hpt
      exact hpt.at F8.keep N11 (by walk_at "my sub")
    case eB1 => exact one_at N11
    case eC1 =>
      clear hpt
      obtain ⟨hb3, q1, q2, r1, e1, e2⟩ := hH.fin
      have hS1 := qdivmod_spec w (back facs.length) full (q1, r1) e1 hb3 hLP.full3 vb (.ref lF)
      have hS2 := qdivmod_spec w hp full (q2, r1) e2 hH.h3 hLP.full3 (.ref lh) (.ref lF)
      simp only [decide_true]
      walk_at "my steps"
      rename Fr _ _ _ _ => F9
      rename News _ _ _ _ => N12
      refine' Stop.mk (cmpEq_P (p := r1) (q := r1) ?eA2 ?eB2 (Rm.cmp rm) ?eC2)
      case eA2 => exact PolyAt.ofLed N12 F9.keep (.tail _ (.tail _ (.tail _ (.tail _ (.tail _ (.head _)))))) (by assumption) (by walk_at "my sub")
      case eB2 => exact PolyAt.ofLed N12 F9.keep (.tail _ (.tail _ (.head _))) (by assumption) (by walk_at "my sub")
      case eC2 =>
        simp only [decide_true]
        walk_at "my steps"
        exact ⟨_, _, rfl, F9.keep, rfl⟩
end
theorem law_use (w : World) {name qual : Str} {params : Arguments} {body : List Stmt} {scope : Scope} {dV kV doc pm cdv ct oc : Value} {an od : Option Addr} {osl : Array (Option Value)}
    (ho : (hd.heap_1 w.params).lookup 178 = some ⟨oc, od, .func (fnOf name qual params body scope dV kV doc pm an cdv ct), osl⟩) : LawBody w qual scope body := by
  obtain ⟨n1, q1, p1, b1, s1, dV1, kV1, doc1, pm1, cdv1, ct1, oc1, an1, od1, osl1, ho1, hB⟩ := law_body law_thm w
  obtain ⟨n2, q2, p2, b2, s2, dV2, kV2, doc2, pm2, cdv2, ct2, oc2, an2, od2, osl2, ho2, hT⟩ := law_tail w
  have e1 := Option.some.inj (ho1.symm.trans ho)
  have e2 := Option.some.inj (ho2.symm.trans ho)
  clear ho1 ho2 ho
  injection e1 with _ _ e1 _
  injection e2 with _ _ e2 _
  injection e1 with e1
  injection e2 with e2
  injection e1 with _ g1 _ g2 g3
  injection e2 with _ k1 _ k2 k3
  injection g2 with g2
  injection k2 with k2
  subst g1 g2 g3
  subst k1 k2 k3
  exact hB ⟨hT⟩
theorem law_good {c : ClaimW} {cl : Str → Option Addr} {mean : ExcName → Option Value} {args : List WData} {s₁ s' : Shared} {v : Value} (hr : Ret s₁ (fun v _ => v = .bool true) v s') (hg : s₁.gens = #[]) (hn : ∀ cls, c.raises args cls = false) (hp : c.post args (.bool true) args = true) :
    GoodW c cl mean args s₁ (.ok (.ret v)) s' := by
  obtain ⟨h', tk', rfl, st, rfl⟩ := hr
  exact ⟨.inl ⟨_, .bool true, [], rfl, hn, .bool true, hp, unshared_nil⟩, st, rfl, hg⟩
theorem callerRm : Rm { handled := none, depth := callerA.depth, frames := callerA.frames, guards := callerA.guards, units := callerA.units } 20 := ⟨rfl, by decide, by decide⟩
end Mine
theorem PySem.Challenge.cw_sa0081_01_holds : PySem.Challenge.rw_sa0081_01.Holds := by
  refine Mine.hd ?_
  w_strict (
    k_go0
    dsimp only
    k_dflt (refine' wpAny_mono (Mine.law_use _ ?yho callerA.depth callerA.units callerA.frames callerA.guards _ _ _ _ _ _ _ _ _ _ _ _ _ Mine.callerRm ?yX ?yT ?yL ?yI ?yN ?yF ?yW ?yC) ?yp ?ye)
    case yho => k_is
    case yX => assumption
    case yT => assumption
    case yL => assumption
    case yI => assumption
    case yN => omega
    case yF => assumption
    case yW => assumption
    case yC => assumption
    case yp => exact fun fl s' hq => Mine.law_good hq (by assumption) (fun cls => rfl) (by first | with_unfolding_all rfl | kernel_rfl)
    case ye => exact fun _ _ x => x.elim)
