import PyProof.Rows.All
import Wide.All
import OpenK.AllK
import Wide.FinOn
import Lean
import PySem.Challenge.RW_pc0001_01
set_option Elab.async false
set_option rowWalk.seconds 0
local macro_rules | `(tactic| k_ne) => `(tactic| (refine PySem.W.neN ?_; (try dsimp only); first | (with_reducible assumption) | exact Ne.symm (by with_reducible assumption) | exact Nat.ne_of_lt (by with_reducible assumption) | exact Nat.ne_of_gt (by with_reducible assumption) | omega))
/-! part Hd -/
section
open PySem PySem.W PyProof.Rows
namespace Mine
set_option maxRecDepth 100000 in
set_option maxHeartbeats 8000000 in
open_top hd for PySem.Challenge.rw_pc0001_01
end Mine
end

/-! part R1 -/
section
open PySem PySem.W PyProof.Rows PyProof.V
open PySem.Spec PySem.Calls
set_option linter.unusedVariables false
namespace Mine
theorem room1 {dp un : Nat} {gd : Option (List Code)} {cn : Str} {cs : Scope} {L a : Addr} {ccd : Value} {cl : List (Str × Addr)} {outer : List Env} {k l : Nat} (h : dp + l < recursionLimit) (e : 1 + k ≤ l) : (ktrTop dp un gd cn cs L a ccd cl outer).depth + 1 + k < recursionLimit := by
  show dp + 1 + k < _
  omega
theorem units1 {dp un : Nat} {gd : Option (List Code)} {cn : Str} {cs : Scope} {L a : Addr} {ccd : Value} {cl : List (Str × Addr)} {outer : List Env} {k l : Nat} (h : un + l < cLine) (e : 3 + k ≤ l) : (ktrTop dp un gd cn cs L a ccd cl outer).units + 3 + k < cLine := by
  show un + 3 + k < _
  omega
section
variable {M : Model} {A : Around} {E : Value → Shared → Prop} {s : Shared} {h₀ : Heap} {L a : Addr} {m : Str → Option Value} {cn : Str} {cs : Scope} {ccd : Value} {cl : List (Str × Addr)}
  {x : Str} {v : Value} {Q : Unit → Shared → Prop} {news : List (Addr × Obj)} {c : Addr} {o : Obj} {v₀ : Option Value} {g : Obj → List (Addr × Obj)}
theorem storeA (s₀ : Shared) (hk : cs.kind = .function) (hx : (envX cn cs L a ccd cl).kindOf x = some .local) (F : Fr h₀ L s.heap m) (N : News h₀ L s.heap news)
    (e1 : s.gens = s₀.gens) (e2 : s.drawn = s₀.drawn) (e3 : s.os = s₀.os)
    (h : ∀ h' t', Fr h₀ L h' (fun y => if y = x then some v else m y) → News h₀ L h' news → Q () ⟨h', s₀.gens, s₀.drawn, t', s₀.os⟩) :
    wpAny M A (storeName (envX cn cs L a ccd cl) x v) Q E s :=
  storeX_L F N (fun h' F' N' => by rw [e1, e2, e3]; exact h h' _ F' N') hk hx
theorem storeAI (s₀ : Shared) {i : Int} {t : Tok} (hk : cs.kind = .function) (hx : (envX cn cs L a ccd cl).kindOf x = some .local) (F : Fr h₀ L s.heap m) (N : News h₀ L s.heap news)
    (e1 : s.gens = s₀.gens) (e2 : s.drawn = s₀.drawn) (e3 : s.os = s₀.os)
    (h : ∀ h' t' u, Fr h₀ L h' (fun y => if y = x then some (.int i u) else m y) → News h₀ L h' news → Q () ⟨h', s₀.gens, s₀.drawn, t', s₀.os⟩) :
    wpAny M A (storeName (envX cn cs L a ccd cl) x (.int i t)) Q E s := storeA s₀ hk hx F N e1 e2 e3 fun h' t' F' N' => h h' t' t F' N'
theorem storeAS (s₀ : Shared) {i : Str} {t : Tok} (hk : cs.kind = .function) (hx : (envX cn cs L a ccd cl).kindOf x = some .local) (F : Fr h₀ L s.heap m) (N : News h₀ L s.heap news)
    (e1 : s.gens = s₀.gens) (e2 : s.drawn = s₀.drawn) (e3 : s.os = s₀.os)
    (h : ∀ h' t' u, Fr h₀ L h' (fun y => if y = x then some (.str i u) else m y) → News h₀ L h' news → Q () ⟨h', s₀.gens, s₀.drawn, t', s₀.os⟩) :
    wpAny M A (storeName (envX cn cs L a ccd cl) x (.str i t)) Q E s := storeA s₀ hk hx F N e1 e2 e3 fun h' t' F' N' => h h' t' t F' N'
theorem anchorE {α : Type} {k : Sem α} {Q : α → Shared → Prop} {hh : Heap} (s₀ : Shared) (F : Fr h₀ L hh m) (e0 : s.heap = hh) (e1 : s.gens = s₀.gens) (e2 : s.drawn = s₀.drawn) (e3 : s.os = s₀.os)
    (h : ∀ t', wpAny M A k Q E ⟨hh, s₀.gens, s₀.drawn, t', s₀.os⟩) : wpAny M A k Q E s := by
  have := h s.toks
  rw [← e0, ← e1, ← e2, ← e3] at this
  exact this
end
end Mine
end

/-! part R2 -/
section
open PySem PySem.W PyProof.Rows PyProof.V
open PySem.Spec PySem.Calls
set_option linter.unusedVariables false
namespace Mine
theorem execs_cut {M : Model} {A : Around} {env : Env} {E : Value → Shared → Prop} {Q : Flow → Shared → Prop} (R : Flow → Shared → Prop) (b : List Stmt)
    (h2 : ∀ s', R .next s' → wpAny M A (execs b env) Q E s') (h3 : ∀ f s', f ≠ .next → R f s' → Q f s') :
    ∀ (a : List Stmt) {s : Shared}, wpAny M A (execs a env) R E s → wpAny M A (execs (a ++ b) env) Q E s := by
  intro a s h Γ p hΓ
  replace h := h Γ p hΓ
  revert h
  induction a generalizing s p with
  | nil =>
    intro h
    exact h2 s h Γ p hΓ
  | cons st rest ih =>
    intro h
    rw [List.cons_append]
    rw [execs_cons, Sem.wp_bind'] at h ⊢
    refine Sem.wp_mono M Γ _ (fun f p' s' h' => ?_) (fun _ _ _ h' => h') _ _ h
    cases f <;> first | exact ih p' h' | exact h3 _ _ (by intro e; cases e) h'
end Mine
end

/-! part P1 -/
section
open PySem PySem.W PyProof.Rows
open PySem.Spec PySem.Calls
set_option maxRecDepth 100000
set_option linter.unusedVariables false
namespace Mine
theorem fresh_P1 : True := by
  w_top off
  trivial
/-! plain functions of the texts -/
def runTo (p : Int → Bool) : Nat → Int → Int
  | 0, i => i
  | n + 1, i => if p i then runTo p n (i + 1) else i
abbrev figs : Str := Str.ofString "0123456789"
def blQ (x : Str) (i : Int) : Bool := Txt.item x i == Str.ofString " "
def fgQ (x : Str) (i : Int) : Bool := !(Builtin.Str.occurrences figs (Txt.item x i) 0 figs.length 1).isEmpty
def blanksEnd (x : Str) (i : Int) : Int := runTo (blQ x) (x.length - i.toNat) i
def figsEnd (x : Str) (i : Int) : Int := runTo (fgQ x) (x.length - i.toNat) i
theorem runTo_stop {p : Int → Bool} {i : Int} (h : p i = false) : ∀ n, runTo p n i = i
  | 0 => rfl
  | n + 1 => by rw [runTo, h]; rfl
theorem runTo_step {p : Int → Bool} {i : Int} {n : Nat} (hi : 0 ≤ i) (hn : i < (n : Int)) (h : p i = true) : runTo p (n - i.toNat) i = runTo p (n - (i + 1).toNat) (i + 1) := by
  have e : n - i.toNat = (n - (i + 1).toNat) + 1 := by omega
  rw [e, runTo, h]; rfl
theorem runTo_end {p : Int → Bool} {i : Int} {n : Nat} (hn : (n : Int) ≤ i) : runTo p (n - i.toNat) i = i := by
  have e : n - i.toNat = 0 := by omega
  rw [e]; rfl
theorem bl_step {x : Str} {i j : Int} (h0 : 0 ≤ j) (h1 : j < (x.length : Int)) (he : blanksEnd x j = blanksEnd x i) (hq : (Txt.item x j == Str.ofString " ") = true) : 0 ≤ j + 1 ∧ j + 1 ≤ (x.length : Int) ∧ blanksEnd x (j + 1) = blanksEnd x i :=
  ⟨by omega, by omega, (runTo_step h0 h1 hq).symm.trans he⟩
theorem bl_stop {x : Str} {i j : Int} (he : blanksEnd x j = blanksEnd x i) (hq : (Txt.item x j == Str.ofString " ") = false) : j = blanksEnd x i := (runTo_stop hq _).symm.trans he
theorem bl_end {x : Str} {i j : Int} (he : blanksEnd x j = blanksEnd x i) (h : ¬ j < (x.length : Int)) : j = blanksEnd x i := (runTo_end (by omega)).symm.trans he
theorem fg_step {x : Str} {i j : Int} (h0 : 0 ≤ j) (h1 : j < (x.length : Int)) (he : figsEnd x j = figsEnd x i) (hq : (Builtin.Str.occurrences figs (Txt.item x j) 0 figs.length 1).isEmpty = false) : 0 ≤ j + 1 ∧ j + 1 ≤ (x.length : Int) ∧ figsEnd x (j + 1) = figsEnd x i :=
  ⟨by omega, by omega, (runTo_step h0 h1 (by unfold fgQ; rw [hq]; rfl)).symm.trans he⟩
theorem fg_stop {x : Str} {i j : Int} (he : figsEnd x j = figsEnd x i) (hq : (Builtin.Str.occurrences figs (Txt.item x j) 0 figs.length 1).isEmpty = true) : j = figsEnd x i := (runTo_stop (by unfold fgQ; rw [hq]; rfl) _).symm.trans he
theorem fg_end {x : Str} {i j : Int} (he : figsEnd x j = figsEnd x i) (h : ¬ j < (x.length : Int)) : j = figsEnd x i := (runTo_end (by omega)).symm.trans he
def digAt (c : Int) : Int := Txt.find figs ⟨#[c.toNat]⟩
def numStep (f c : Int) : Int := if 65529 + 1 < 10 * f + digAt c then 65529 + 1 else 10 * f + digAt c
def numTold (l : List Int) : Int := l.foldl numStep 0
def isFig (c : Nat) : Bool := !(Builtin.Str.occurrences figs ⟨#[c]⟩ 0 figs.length 1).isEmpty
theorem nt_step {f : Int} {l : List Int} {n : Nat} (h0 : 0 ≤ f) (e : f = numTold l) (h : 0 ≤ Txt.find figs ⟨#[n]⟩) :
    0 ≤ (if 65529 + 1 < 10 * f + Txt.find figs ⟨#[n]⟩ then 65529 + 1 else 10 * f + Txt.find figs ⟨#[n]⟩) ∧
    (if 65529 + 1 < 10 * f + Txt.find figs ⟨#[n]⟩ then 65529 + 1 else 10 * f + Txt.find figs ⟨#[n]⟩) ≤ 65530 ∧
    (if 65529 + 1 < 10 * f + Txt.find figs ⟨#[n]⟩ then 65529 + 1 else 10 * f + Txt.find figs ⟨#[n]⟩) = numTold (l ++ [(n : Int)]) := by
  refine ⟨by split <;> omega, by split <;> omega, ?_⟩
  unfold numTold
  rw [List.foldl_append]
  show _ = numStep (numTold l) n
  rw [← e]
  rfl
theorem nt_no {x : Str} {pre post : List Int} {n : Nat} (hf : x.cps.all isFig = true) (e : KStt.codes x = pre ++ (n : Int) :: post) (h : (Builtin.Str.occurrences figs ⟨#[n]⟩ 0 figs.length 1).isEmpty = true) : False := by
  have hm : (n : Int) ∈ KStt.codes x := by rw [e]; simp
  unfold KStt.codes at hm
  obtain ⟨c, hc, hcn⟩ := List.mem_map.mp hm
  have hcn' : c = n := by omega
  subst hcn'
  have := Array.all_eq_true'.mp hf c (by simpa using hc)
  unfold isFig at this
  rw [h] at this
  cases this
section
variable {w : World} {p : Program} {loose : List Str} {mean : ExcName → Option Value} {mg mb : Str → Option Value} {dp un : Nat} {gd : Option (List Code)} {cn : Str} {cs : Scope} {a : Addr} {ccd : Value} {cl : List (Str × Addr)} {outer : List Env} {A₀ : Around} {base h₀ : Heap} {L : Addr} {m : Str → Option Value} {news : List (Addr × Obj)} {s : Shared}
    {Q E : Value → Shared → Prop}
set_option maxHeartbeats 8000000 in
theorem blanks_end_spec (B : Below A₀ base outer h₀) (F : Fr h₀ L s.heap m) (X : (hd.heap_39 w.params).In h₀) (N : News h₀ L s.heap news) (T : Top p loose mean mg mb h₀) (hk : cs.kind = .function) (hd : dp + 10 < recursionLimit) (hu : un + 80 < cLine)
   (x : Str) (t u : Tok) (i : Int) (hx : x.length ≤ 1000) (hi : 0 ≤ i) (hi2 : i ≤ (x.length : Int))
   (ret : ∀ h' tk' t', Fr h₀ L h' m → News h₀ L h' news → Q (.int (blanksEnd x i) t') { s with heap := h', toks := tk' }) :
   wpAny (model PySem.Challenge.rw_pc0001_01.row.prog w) (ktrTop dp un gd cn cs L a ccd cl outer) (call (.ref 51) [.str x t, .int i u]) Q E s := by
  revert X; k_fill; intro X
  refine wpAny_call ?_
  k_dflt ktr_enter
  k_with_none
  k_with "exec While BoolOp cons nil" => k_while (fun _ j => 0 ≤ j ∧ j ≤ (x.length : Int) ∧ blanksEnd x j = blanksEnd x i) (fun _ j => x.length - j.toNat) "at"
  k_with "state" => first | exact ⟨hi, hi2, rfl⟩ | exact bl_step (by assumption) (by assumption) (by assumption) (by assumption)
  k_steps
  all_goals (first
   | (have e := bl_stop (by assumption) (by assumption); subst e; exact ret _ _ _ (by assumption) (by assumption))
   | (have e := bl_end (by assumption) (by assumption); subst e; exact ret _ _ _ (by assumption) (by assumption)))
set_option maxHeartbeats 8000000 in
theorem figures_end_spec (B : Below A₀ base outer h₀) (F : Fr h₀ L s.heap m) (X : (hd.heap_39 w.params).In h₀) (N : News h₀ L s.heap news) (T : Top p loose mean mg mb h₀) (hk : cs.kind = .function) (hd : dp + 10 < recursionLimit) (hu : un + 80 < cLine)
   (x : Str) (t u : Tok) (i : Int) (hx : x.length ≤ 1000) (hi : 0 ≤ i) (hi2 : i ≤ (x.length : Int))
   (ret : ∀ h' tk' t', Fr h₀ L h' m → News h₀ L h' news → Q (.int (figsEnd x i) t') { s with heap := h', toks := tk' }) :
   wpAny (model PySem.Challenge.rw_pc0001_01.row.prog w) (ktrTop dp un gd cn cs L a ccd cl outer) (call (.ref 44) [.str x t, .int i u]) Q E s := by
  revert X; k_fill; intro X
  refine wpAny_call ?_
  k_dflt ktr_enter
  k_with_none
  k_with "exec While BoolOp cons nil" => k_while (fun _ j => 0 ≤ j ∧ j ≤ (x.length : Int) ∧ figsEnd x j = figsEnd x i) (fun _ j => x.length - j.toNat) "at"
  k_with "state" => first | exact ⟨hi, hi2, rfl⟩ | exact fg_step (by assumption) (by assumption) (by assumption) (by assumption)
  k_steps
  all_goals (first
   | (have e := fg_stop (by assumption) (by assumption); subst e; exact ret _ _ _ (by assumption) (by assumption))
   | (have e := fg_end (by assumption) (by assumption); subst e; exact ret _ _ _ (by assumption) (by assumption)))
set_option maxHeartbeats 8000000 in
theorem number_told_spec (B : Below A₀ base outer h₀) (F : Fr h₀ L s.heap m) (X : (hd.heap_39 w.params).In h₀) (N : News h₀ L s.heap news) (T : Top p loose mean mg mb h₀) (hk : cs.kind = .function) (hd : dp + 10 < recursionLimit) (hu : un + 80 < cLine)
   (x : Str) (t : Tok) (hx : x.length ≤ 1000) (hf : x.cps.all isFig = true)
   (ret : ∀ h' tk' t', Fr h₀ L h' m → News h₀ L h' news → Q (.int (numTold (KStt.codes x)) t') { s with heap := h', toks := tk' }) :
   wpAny (model PySem.Challenge.rw_pc0001_01.row.prog w) (ktrTop dp un gd cn cs L a ccd cl outer) (call (.ref 58) [.str x t]) Q E s := by
  revert X; k_fill; intro X
  refine wpAny_call ?_
  k_dflt ktr_enter
  k_with_none
  k_with "pyIter str" => k_state (fun pre k => 0 ≤ k ∧ k ≤ 65530 ∧ k = numTold pre) "found"
  k_with "state" => first | exact ⟨by decide, by decide, rfl⟩ | exact nt_step (by assumption) (by assumption) (by assumption)
  k_steps
  · exact absurd (nt_no hf (by assumption) (by assumption)) id
  · rename_i e _ _ _ _
    subst e
    exact ret _ _ _ (by assumption) (by assumption)
set_option maxHeartbeats 8000000 in
theorem line_number_spec (B : Below A₀ base outer h₀) (F : Fr h₀ L s.heap m) (X : (hd.heap_39 w.params).In h₀) (N : News h₀ L s.heap news) (T : Top p loose mean mg mb h₀) (hk : cs.kind = .function) (hd : dp + 10 < recursionLimit) (hu : un + 80 < cLine)
   (x : Int) (t : Tok) (h0 : 0 ≤ x) (h1 : x ≤ 65529)
   (ret : ∀ h' tk', Fr h₀ L h' m → News h₀ L h' news → Q (.int x t) { s with heap := h', toks := tk' }) :
   wpAny (model PySem.Challenge.rw_pc0001_01.row.prog w) (ktrTop dp un gd cn cs L a ccd cl outer) (call (.ref 65) [.int x t]) Q E s := by
  revert X; k_fill; intro X
  refine wpAny_call ?_
  k_dflt ktr_enter
  k_with_none
  k_steps
  · exact ret _ _ (by assumption) (by assumption)
end
end Mine
end

/-! part P2 -/
section
open PySem PySem.W PyProof.Rows
open PySem.Spec PySem.Calls
set_option maxRecDepth 100000
set_option linter.unusedVariables false
namespace Mine
theorem fresh_P2 : True := by
  w_top off
  trivial
/-! parted_row -/
abbrev tupObj (vs : List Value) : Obj := { cls := .type "tuple", data := .seq vs.toArray }
abbrev pB (x : Str) : Int := blanksEnd x 0
abbrev pE (x : Str) : Int := figsEnd x (pB x)
abbrev pFig (x : Str) : Str := Txt.slice x (some (pB x)) (some (pE x))
abbrev pNum (x : Str) : Int := numTold (KStt.codes (pFig x))
def pRest (x : Str) : Str := if (Txt.slice x (some (pE x)) (some (pE x + 1)) == Str.ofString " ") = true then Txt.slice x (some (pE x + 1)) none else Txt.slice x (some (pE x)) none
theorem runTo_ge {p : Int → Bool} : ∀ (n : Nat) (i : Int), i ≤ runTo p n i ∧ runTo p n i ≤ i + n
  | 0, i => ⟨Int.le_refl _, by show i ≤ i + 0; omega⟩
  | n + 1, i => by
    have h := runTo_ge (p := p) n (i + 1)
    rw [runTo]
    split
    · omega
    · omega
theorem pB_lo (x : Str) : 0 ≤ pB x := (runTo_ge _ _).1
theorem pB_hi (x : Str) : pB x ≤ (x.length : Int) := by
  have h := (runTo_ge (p := blQ x) (x.length - (0 : Int).toNat) 0).2
  unfold pB blanksEnd
  have e : ((x.length - (0 : Int).toNat : Nat) : Int) = x.length := by simp
  omega
theorem pE_lo (x : Str) : pB x ≤ pE x := (runTo_ge _ _).1
theorem pE_hi (x : Str) : pE x ≤ (x.length : Int) := by
  have h := (runTo_ge (p := fgQ x) (x.length - (pB x).toNat) (pB x)).2
  have h0 := pB_lo x
  have h1 := pB_hi x
  unfold pE figsEnd
  omega
section
variable {w : World} {p : Program} {loose : List Str} {mean : ExcName → Option Value} {mg mb : Str → Option Value} {dp un : Nat} {gd : Option (List Code)} {cn : Str} {cs : Scope} {a : Addr} {ccd : Value} {cl : List (Str × Addr)} {outer : List Env} {A₀ : Around} {base h₀ : Heap} {L : Addr} {m : Str → Option Value} {news : List (Addr × Obj)} {s : Shared}
    {Q E : Value → Shared → Prop}
set_option maxHeartbeats 8000000 in
theorem parted_row_spec (B : Below A₀ base outer h₀) (F : Fr h₀ L s.heap m) (X : (hd.heap_39 w.params).In h₀) (N : News h₀ L s.heap news) (T : Top p loose mean mg mb h₀) (hk : cs.kind = .function) (hd : dp + 20 < recursionLimit) (hu : un + 160 < cLine)
   (x : Str) (t : Tok) (hx : x.length ≤ 1000) (hf : (pFig x).cps.all isFig = true) (h0 : 0 ≤ pNum x) (h1 : pNum x ≤ 65529)
   (ret0 : pE x = pB x → ∀ D h' tk' t', Fr h₀ L h' m → News h₀ L h' ((D, tupObj [.none, .str (Txt.slice x (some (pB x)) none) t']) :: news) → (∀ p ∈ news, p.1 < D) → Q (.ref D) { s with heap := h', toks := tk' })
   (ret : pE x ≠ pB x → ∀ D h' tk' t' t'', Fr h₀ L h' m → News h₀ L h' ((D, tupObj [.int (pNum x) t'', .str (pRest x) t']) :: news) → (∀ p ∈ news, p.1 < D) → Q (.ref D) { s with heap := h', toks := tk' }) :
   wpAny (model PySem.Challenge.rw_pc0001_01.row.prog w) (ktrTop dp un gd cn cs L a ccd cl outer) (call (.ref 72) [.str x t]) Q E s := by
  revert X; k_fill; intro X
  refine wpAny_call ?_
  k_dflt ktr_enter
  k_with_none
  repeat' (first
    | (k_unfold; (try dsimp only))
    | (k_end; wrow_close)
    | (first | (with_reducible ((k_here; (with_reducible show wpAny _ _ (eval (Expr.Call (Expr.Name _ _) _ [] _) _) _ _ _); k_dflt (refine Call_ ?_)))) | ((k_here; (with_reducible show wpAny _ _ (eval (Expr.Call (Expr.Name _ _) _ [] _) _) _ _ _); k_dflt (refine Call_ ?_))))
    | ((with_reducible show wpAny _ _ (call (Value.ref _) _) _ _ _); first | (with_reducible ((k_here; k_dflt (first | (refine' blanks_end_spec (by k_asm) (by k_asm) (by k_asm) (by k_asm) (by k_asm) (by rfl) (by first | exact room1 (by with_reducible assumption) (by decide) | ktr_room) (by first | exact units1 (by with_reducible assumption) (by decide) | ktr_units) _ _ _ _ (by assumption) (by omega) (by omega) ?_; intro _ _ _ _ _; (try k_fold)) | (refine' figures_end_spec (by k_asm) (by k_asm) (by k_asm) (by k_asm) (by k_asm) (by rfl) (by first | exact room1 (by with_reducible assumption) (by decide) | ktr_room) (by first | exact units1 (by with_reducible assumption) (by decide) | ktr_units) _ _ _ _ (by assumption) (by exact pB_lo _) (by exact pB_hi _) ?_; intro _ _ _ _ _; (try k_fold)) | (refine' number_told_spec (by k_asm) (by k_asm) (by k_asm) (by k_asm) (by k_asm) (by rfl) (by first | exact room1 (by with_reducible assumption) (by decide) | ktr_room) (by first | exact units1 (by with_reducible assumption) (by decide) | ktr_units) _ _ (by omega) (by assumption) ?_; intro _ _ _ _ _; (try k_fold)) | (refine' line_number_spec (by k_asm) (by k_asm) (by k_asm) (by k_asm) (by k_asm) (by rfl) (by first | exact room1 (by with_reducible assumption) (by decide) | ktr_room) (by first | exact units1 (by with_reducible assumption) (by decide) | ktr_units) _ _ (by assumption) (by assumption) ?_; intro _ _ _ _; (try k_fold)))))) | ((k_here; k_dflt (first | (refine' blanks_end_spec (by k_asm) (by k_asm) (by k_asm) (by k_asm) (by k_asm) (by rfl) (by first | exact room1 (by with_reducible assumption) (by decide) | ktr_room) (by first | exact units1 (by with_reducible assumption) (by decide) | ktr_units) _ _ _ _ (by assumption) (by omega) (by omega) ?_; intro _ _ _ _ _; (try k_fold)) | (refine' figures_end_spec (by k_asm) (by k_asm) (by k_asm) (by k_asm) (by k_asm) (by rfl) (by first | exact room1 (by with_reducible assumption) (by decide) | ktr_room) (by first | exact units1 (by with_reducible assumption) (by decide) | ktr_units) _ _ _ _ (by assumption) (by exact pB_lo _) (by exact pB_hi _) ?_; intro _ _ _ _ _; (try k_fold)) | (refine' number_told_spec (by k_asm) (by k_asm) (by k_asm) (by k_asm) (by k_asm) (by rfl) (by first | exact room1 (by with_reducible assumption) (by decide) | ktr_room) (by first | exact units1 (by with_reducible assumption) (by decide) | ktr_units) _ _ (by omega) (by assumption) ?_; intro _ _ _ _ _; (try k_fold)) | (refine' line_number_spec (by k_asm) (by k_asm) (by k_asm) (by k_asm) (by k_asm) (by rfl) (by first | exact room1 (by with_reducible assumption) (by decide) | ktr_room) (by first | exact units1 (by with_reducible assumption) (by decide) | ktr_units) _ _ (by assumption) (by assumption) ?_; intro _ _ _ _; (try k_fold))))))
    | ((with_reducible show wpAny _ _ (exec _ _) _ _ _); k_here; k_fold; walk1)
    | walk1
    | (dsimp only; walk1)
    | (leave1; walk_say "STEP leave1"; try dsimp only)
    | fail "no step")
  · exact ret0 (by assumption) _ _ _ _ (by assumption) (by assumption) (by assumption)
  · refine ret (by assumption) _ _ _ _ _ (by assumption) (by unfold pRest; rw [if_pos (by assumption)]; assumption) (by assumption)
  · refine ret (by assumption) _ _ _ _ _ (by assumption) (by unfold pRest; rw [if_neg (by simp only [*]; exact Bool.false_ne_true)]; assumption) (by assumption)
end
end Mine
end

/-! part P3 -/
section
open PySem PySem.W PyProof.Rows PyProof.V
open PySem.Spec PySem.Calls
set_option maxRecDepth 100000
set_option linter.unusedVariables false
namespace Mine
/-! a dict of ints to texts, as a list -/
abbrev Bk := List (Int × Str)
def sD (c : Bk) : List (PyData × PyData) := c.map fun p => (PyData.int p.1, PyData.str p.2)
def sHas (c : Bk) (k : Int) : Bool := c.any fun p => decide (p.1 = k)
def sLook (c : Bk) (k : Int) : Option Str := (c.find? fun p => decide (p.1 = k)).map (·.2)
def sPut (c : Bk) (k : Int) (v : Str) : Bk := if sHas c k then c.map (fun p => if decide (p.1 = k) then (p.1, v) else p) else c ++ [(k, v)]
def sDel (c : Bk) (k : Int) : Bk := c.filter fun p => !decide (p.1 = k)
def sEq (a b : Bk) : Bool := a.length == b.length && a.all fun p => decide (sLook b p.1 = some p.2)
theorem sD_length (c : Bk) : (sD c).length = c.length := by unfold sD; rw [List.length_map]
theorem sD_any (c : Bk) (k : Int) : ((sD c).any fun p => PySem.Spec.same p.1 (PyData.int k)) = sHas c k := by
  unfold sHas
  induction c with
  | nil => rfl
  | cons p c ih =>
    show (PySem.Spec.same (PyData.int p.1) (PyData.int k) || (sD c).any fun p => PySem.Spec.same p.1 (PyData.int k)) = (decide (p.1 = k) || c.any fun p => decide (p.1 = k))
    rw [ih, PyProof.V.same_int]
theorem sD_put (c : Bk) (k : Int) (v : Str) : putD (PyData.int k) (PyData.str v) (sD c) = sD (sPut c k v) := by
  unfold putD sPut
  rw [sD_any]
  by_cases hc : sHas c k = true
  · rw [if_pos hc, if_pos hc]
    unfold sD
    rw [List.map_map, List.map_map]
    refine List.map_congr_left fun p _ => ?_
    show (if PySem.Spec.same (PyData.int p.1) (PyData.int k) = true then (PyData.int p.1, PyData.str v) else (PyData.int p.1, PyData.str p.2)) = (fun p : Int × Str => (PyData.int p.1, PyData.str p.2)) (if decide (p.1 = k) = true then (p.1, v) else p)
    rw [PyProof.V.same_int]
    by_cases hp : p.1 = k
    · rw [if_pos (decide_eq_true hp), if_pos (decide_eq_true hp)]
    · rw [if_neg (by simp [hp]), if_neg (by simp [hp])]
  · rw [if_neg hc, if_neg hc]
    unfold sD
    rw [List.map_append]
    rfl
theorem sD_del (c : Bk) (k : Int) : delD (PyData.int k) (sD c) = sD (sDel c k) := by
  unfold delD sD sDel
  rw [List.filter_map]
  have e : ((fun p : PyData × PyData => !PySem.Spec.same p.1 (PyData.int k)) ∘ fun p : Int × Str => (PyData.int p.1, PyData.str p.2)) = fun p : Int × Str => !decide (p.1 = k) := by
    funext p
    show (!PySem.Spec.same (PyData.int p.1) (PyData.int k)) = !decide (p.1 = k)
    rw [PyProof.V.same_int]
  rw [e]
theorem sD_lookup (k : Int) : ∀ c : Bk, PySem.Spec.lookup (PyData.int k) (sD c) = (sLook c k).map PyData.str
  | [] => rfl
  | (i, v) :: c => by
    show (if PySem.Spec.same (PyData.int i) (PyData.int k) = true then some (PyData.str v) else PySem.Spec.lookup (PyData.int k) (sD c)) = _
    rw [PyProof.V.same_int, sD_lookup k c]
    unfold sLook
    rw [List.find?_cons]
    by_cases h : i = k
    · simp [h]
    · simp [h]
theorem sLook_isSome (k : Int) : ∀ c : Bk, (sLook c k).isSome = sHas c k
  | [] => rfl
  | (i, v) :: c => by
    have ih := sLook_isSome k c
    unfold sLook sHas at *
    rw [List.find?_cons, List.any_cons]
    by_cases h : i = k
    · simp [h]
    · simp [h] at ih ⊢
      simpa using ih
theorem sD_isSome (k : Int) (c : Bk) : (PySem.Spec.lookup (PyData.int k) (sD c)).isSome = sHas c k := by
  rw [sD_lookup, ← sLook_isSome]
  cases sLook c k <;> rfl
theorem sPut_len (c : Bk) (k : Int) (v : Str) : (sPut c k v).length ≤ c.length + 1 := by
  unfold sPut
  split
  · rw [List.length_map]; omega
  · rw [List.length_append]; simp
theorem sDel_len (c : Bk) (k : Int) : (sDel c k).length ≤ c.length := List.length_filter_le _ _

/-- the object is a dict of these -/
def TDict (prog : Program) (w : World) (o : Obj) (c : Bk) : Prop := ∃ kvs, o.IsDictOf (intKind prog w) kvs ∧ FlatPairs PyData.int kvs (sD c)
def skeys (c : Bk) : List Int := (c.map (·.1)).mergeSort (fun a b => decide (a ≤ b))
theorem skeys_perm (c : Bk) : (skeys c).Perm (c.map (·.1)) := List.mergeSort_perm _ _
theorem skeys_asc (c : Bk) : (skeys c).Pairwise (· ≤ ·) := by
  have h := List.pairwise_mergeSort (le := fun (a b : Int) => decide (a ≤ b)) (fun a b c h1 h2 => by simp at *; omega) (fun a b => by simp; omega) (c.map (·.1))
  exact h.imp fun h => by simpa using h
section
variable {prog : Program} {w : World} {A : Around} {E : Value → Shared → Prop} {s : Shared} {h₀ : Heap} {L d d' : Addr} {m : Str → Option Value} {news : List (Addr × Obj)} {u : Obj → List (Addr × Obj)} {o o' : Obj} {c c' : Bk} {k : Int} {tk tv : Tok} {v : Str}
theorem td_empty (h : o.IsDictOf (intKind prog w) []) : TDict prog w o [] := ⟨[], h, .nil⟩
theorem td_tab (N : News h₀ L s.heap news) (hm : (d, o) ∈ news) (lo : (d == sysModules) = false) (T : TDict prog w o c) : IntTab prog w s.heap d (sD c) := by
  obtain ⟨kvs, hd, hf⟩ := T
  exact TabAt.ofNews N hm lo hd hf
theorem td_set {Q : Unit → Shared → Prop} (F : Fr h₀ L s.heap m) (N : News h₀ L s.heap news) (U : UpdF d o news u) (T : TDict prog w o c) (hc : c.length ≤ 1000)
    (h : ∀ h' o', Fr h₀ L h' m → News h₀ L h' (u o') → TDict prog w o' (sPut c k v) → Q () { s with heap := h', toks := s.toks + 1 }) :
    wpAny (model prog w) A (setItem (.ref d) (.int k tk) (.str v tv)) Q E s := by
  obtain ⟨kvs, hd, hf⟩ := T
  refine setItem_K PyProof.V.same_int (intKind_is _ _ _ _) (PyProof.V.Flat.str v tv) F N U hd hf (fun h' o' F' N' a b => h h' o' F' N' ⟨_, a, ?_⟩) (by rw [sD_length, sizeLine_eq]; omega)
  rw [← sD_put]
  exact b
theorem td_pop {Q : Value → Shared → Prop} (F : Fr h₀ L s.heap m) (N : News h₀ L s.heap news) (U : UpdF d o news u) (T : TDict prog w o c) (hk : sHas c k = true) (hc : c.length ≤ 1000)
    (h : ∀ h' o' x t, Fr h₀ L h' m → News h₀ L h' (u o') → TDict prog w o' (sDel c k) → sLook c k = some x → Q (.str x t) { s with heap := h', toks := s.toks + 1 })
    (hargs : argsOk "dict.pop" ⟨[.ref d, .int k tk], []⟩ := by exact PySem.F.args_dict_pop_2 _ _) :
    wpAny (model prog w) A (call (.builtin "dict.pop") [.ref d, .int k tk]) Q E s := by
  obtain ⟨kvs, hd, hf⟩ := T
  obtain ⟨x, hx⟩ := Option.isSome_iff_exists.mp ((sLook_isSome k c).trans hk)
  refine kt_pop_K PyProof.V.same_int (intKind_is _ _ _ _) (.inl rfl) (by rfl) hargs F N U hd hf (dv := PyData.str x) (by rw [sD_lookup, hx]; rfl) (fun h' o' y hy F' N' a b => ?_) (by rw [sD_length, sizeLine_eq]; omega)
  obtain ⟨t, rfl⟩ := PyProof.V.Flat.str_inv hy
  exact h h' o' x t F' N' ⟨_, a, by rw [← sD_del]; exact b⟩ hx
theorem td_in {Q : Value → Shared → Prop} (N : News h₀ L s.heap news) (hm : (d, o) ∈ news) (lo : (d == sysModules) = false) (T : TDict prog w o c)
    (h : Q (.bool (sHas c k)) { s with toks := s.toks + 1 }) : wpAny (model prog w) A (compareOp .In (.int k tk) (.ref d)) Q E s :=
  in_intTab (td_tab N hm lo T) (by rw [sD_isSome]; exact h)
theorem td_item {value slice : Expr} {Q : Value → Shared → Prop} {x : Str} (N : News h₀ L s.heap news) (hm : (d, o) ∈ news) (lo : (d == sysModules) = false) (T : TDict prog w o c) (hl : sLook c k = some x)
    (h : ∀ t, Q (.str x t) { s with toks := s.toks + 1 })
    (hs : subscripted slice false (.ref d) (.int k tk) = operate [.ref d, .int k tk] (getItem (.ref d) (.int k tk)) := by with_unfolding_all rfl) (hg : ∀ r, letTemporaryGo value (.ref d) r = pure () := by intro _; with_unfolding_all rfl) :
    wpAny (model prog w) A (subscriptTail value slice (.ref d) (.int k tk)) Q E s := by
  refine item_intTab (td_tab N hm lo T) (dv := PyData.str x) (by rw [sD_lookup, hl]; rfl) (fun y hy => ?_) hs hg
  obtain ⟨t, rfl⟩ := PyProof.V.Flat.str_inv hy
  exact h t
theorem sort_made {D : Addr} {vs : List Value} {ns : List Int} {Q : Value → Shared → Prop} (F : Fr h₀ L s.heap m) (N : News h₀ L s.heap ((D, listOf vs.toArray 0) :: news)) (hlt : ∀ p ∈ news, p.1 < D)
    (hi : IntsAre vs ns) (h64 : ns.length < 64)
    (h : ∀ (out : List Value) (n : Nat) (ns' : List Int) h', IntsAre out ns' → ns'.Perm ns → ns'.Pairwise (· ≤ ·) → Fr h₀ L h' m → News h₀ L h' ((D, listOf out.toArray n) :: news) → Q .none { s with heap := h' }) :
    wpAny (model prog w) A (call (.builtin "list.sort") [.ref D]) Q E s := by
  have z := N (D, listOf vs.toArray 0) (.head _)
  have hb : ∀ p ∈ news, p.1 ≠ D := fun p hp => Nat.ne_of_lt (hlt p hp)
  have ho : s.heap.get? D = some (seqObj "list" vs.toArray 0) := z.1
  refine wpAny_call_entry PyProof.Rows.slot_list_sort ⟨_, z.1, rfl⟩ PyProof.Rows.entry_list_sort (list_sort_tree (n := 0) (vs := vs) ho hi (by rw [hi.length]; exact h64) fun out ns' hI hp hP => ⟨.none, rfl, ?_⟩) (PyProof.Rows.args_list_sort _)
  have F1 : Fr h₀ L (s.heap.update D (Obj.mapSeq fun _ => (#[] : Array Value))) m := F.change (Heap.SameBut.update ..) z.2.1 z.2.2
  have N1 := ki_turn (pre := []) (fun _ => (#[] : Array Value)) (its' := #[]) N (fun _ h => nomatch h) hb rfl rfl
  have N2 := News.grown N1 fun _ _ e => Heap.get?_push_of_some (seqObj "tuple" vs.toArray 0) e
  have N3 := News.grown N2 fun _ _ e => Heap.get?_push_of_some (seqObj "list" #[] 0) e
  have N4 := ki_turn (pre := []) (fun _ => out) (its' := out) N3 (fun _ h => nomatch h) hb rfl rfl
  have F4 : Fr h₀ L ((((s.heap.update D (Obj.mapSeq fun _ => (#[] : Array Value))).push (seqObj "tuple" vs.toArray 0)).push (seqObj "list" #[] 0)).update D (Obj.mapSeq fun _ => out)) m :=
    ((F1.push (seqObj "tuple" vs.toArray 0)).push (seqObj "list" #[] 0)).change (Heap.SameBut.update ..) z.2.1 z.2.2
  obtain ⟨n, N5⟩ : ∃ n, News h₀ L ((((s.heap.update D (Obj.mapSeq fun _ => (#[] : Array Value))).push (seqObj "tuple" vs.toArray 0)).push (seqObj "list" #[] 0)).update D (Obj.mapSeq fun _ => out)) ((D, PySem.W.listOf out n) :: news) := ⟨_, N4⟩
  exact h out.toList n ns' _ hI hp hP F4 (by rw [Array.toArray_toList]; exact N5)
theorem keysD_open : ∀ {c : Bk} {C : List Value → Prop}, (∀ vs, IntsAre vs (c.map (·.1)) → C vs) → KdlKeysD (sD c) C
  | [], C, h => h [] .nil
  | (k, v) :: c, C, h => by
    intro x hx
    obtain ⟨t, rfl⟩ := PyProof.V.Flat.int_inv hx
    exact keysD_open (c := c) fun vs hv => h _ (.cons k t hv)
theorem td_sorted {Q : Value → Shared → Prop} (hh : A.handled = none) (F : Fr h₀ L s.heap m) (N : News h₀ L s.heap news) (hm : (d, o) ∈ news) (lo : (d == sysModules) = false) (T : TDict prog w o c) (hc : c.length < 64)
    (h : ∀ (B : Addr) (n : Nat) h' tk vs, Fr h₀ L h' m → News h₀ L h' ((B, listOf vs.toArray n) :: news) → (∀ q ∈ news, q.1 < B) → IntsAre vs (skeys c) → Q (.ref B) { s with heap := h', toks := tk }) :
    wpAny (model prog w) A (call (.builtin "sorted") [.ref d]) Q E s := by
  refine kdu_sortedD (knd := PySem.intKind prog w) (enc := PyData.int) (fun _ _ => kdl_flat_int) hh F N (td_tab N hm lo T) (by rw [sD_length]; omega) fun B h' tk => keysD_open fun vs hv F' N' l1 => ?_
  refine sort_made F' N' l1 hv (by rw [List.length_map]; exact hc) fun out n ns' h'' hI hp hP F'' N'' => ?_
  have e : ns' = skeys c := lks_uniq (hp.trans (skeys_perm c).symm) hP (skeys_asc c)
  subst e
  exact h B n h'' tk out F'' N'' l1 hI
theorem sLook_mem : ∀ {c : Bk}, (c.map (·.1)).Nodup → ∀ {p : Int × Str}, p ∈ c → sLook c p.1 = some p.2
  | [], _, _, h => nomatch h
  | (i, v) :: c, hn, p, h => by
    unfold sLook
    rw [List.find?_cons]
    rw [List.map_cons, List.nodup_cons] at hn
    rcases List.mem_cons.mp h with rfl | h
    · simp
    · have hne : i ≠ p.1 := fun e => hn.1 (List.mem_map.mpr ⟨p, h, e.symm⟩)
      have ih := sLook_mem hn.2 h
      unfold sLook at ih
      simp [hne, ih]
theorem sLook_some : ∀ {c : Bk} {k : Int} {x : Str}, sLook c k = some x → (k, x) ∈ c := by
  intro c k x h
  unfold sLook at h
  cases hf : c.find? fun p => decide (p.1 = k) with
  | none => rw [hf] at h; cases h
  | some p =>
    rw [hf] at h
    have h1 := List.find?_some hf
    have h2 := List.mem_of_find?_eq_some hf
    simp at h h1
    subst h h1
    exact h2
theorem rows_of {c' : Bk} : ∀ {c : Bk}, (∀ p ∈ c, sLook c' p.1 = some p.2) → KeqRows (sD c') (sD c) true
  | [], _ => .nil
  | (k, v) :: c, h => by
    have e := h (k, v) (.head _)
    have hr := rows_of (c := c) fun p hp => h p (.tail _ hp)
    have hh := KeqRows.hit (Db := sD c') (k := PyData.int k) (v := PyData.str v) (u := PyData.str v) (by rw [sD_lookup, e]; rfl) hr
    have ev : (PyData.eqv (PyData.str v) (PyData.str v) && true) = true := by simp [PyData.eqv]
    rw [ev] at hh
    exact hh
theorem td_ne {Q : Value → Shared → Prop} (N : News h₀ L s.heap news) (hm : (d, o) ∈ news) (hm' : (d', o') ∈ news) (lo : (d == sysModules) = false) (lo' : (d' == sysModules) = false) (T : TDict prog w o c) (T' : TDict prog w o' c')
    (hp : c.Perm c') (hn : (c.map (·.1)).Nodup) (hu : A.units < cLine) (h : Q (.bool false) s) : wpAny (model prog w) A (compareOp .NotEq (.ref d) (.ref d')) Q E s := by
  have hn' : (c'.map (·.1)).Nodup := (hp.map _).nodup_iff.mp hn
  exact kne_tabs (knd := PySem.intKind prog w) (enc := PyData.int) PyProof.V.same_int (td_tab N hm lo T) (td_tab N hm' lo' T') (by rw [sD_length, sD_length, hp.length_eq]) hu
    (rows_of fun p hp' => sLook_mem hn' (hp.mem_iff.mp hp')) h
end
end Mine
end

/-! part P4 -/
section
open PySem PySem.W PyProof.Rows PyProof.V
open PySem.Spec PySem.Calls
set_option maxRecDepth 100000
set_option linter.unusedVariables false
namespace Mine
theorem fresh_P4 : True := by
  w_top off
  trivial
abbrev PR : Program := PySem.Challenge.rw_pc0001_01.row.prog
section
variable {prog : Program} {w : World} {A : Around} {h₀ : Heap} {L : Addr} {m : Str → Option Value} {env : Env} {ct elt : PySem.Expr} {x : Str} {scope : Scope} {cl : List (Str × Addr)} {s : Shared} {S : List (Addr × Obj) → Prop} {Fin : List Value → List (Addr × Obj) → Prop} {news : List (Addr × Obj)}
theorem lct_filter {vs : List Value} {ns : List Int} (p : Int → Bool) (hi : IntsAre vs ns)
  (turn : ∀ k t I oI C oC D m₂ ys h tk (E' : Value → Shared → Prop), k ∈ ns → LCg.NsObj oC m₂ → m₂ x = some (.int k t) → Fr h₀ L h m → News h₀ L h ((I, oI) :: (C, oC) :: (D, LCg.lst ys) :: news) → LCg.Off3 I C D news → ((@Ne Nat I C) ∧ (@Ne Nat I D) ∧ (@Ne Nat C D)) →
      wpAny (model prog w) A (isTrue ct (compEnvC scope cl C env) (eval ct (compEnvC scope cl C env))) (fun ok s' => if ok = true then
        wpAny (model prog w) A (eval elt (compEnvC scope cl C env)) (LCg.CompEnd h₀ L m { s with heap := h, toks := tk } I oI C oC D (LCg.lst ys) S (fun y news' => news' = news ∧ p k = true ∧ ∃ t', y = .int k t')) E' s'
        else LCg.CompEnd h₀ L m { s with heap := h, toks := tk } I oI C oC D (LCg.lst ys) S (fun _ news' => news' = news ∧ p k = false) Value.none s') E' { s with heap := h, toks := tk })
  (fin : ∀ ys, IntsAre ys (ns.filter p) → Fin ys news) :
  LCt.CompRestT prog w A h₀ L m env ct elt x scope cl s S (fun i v => vs.toArray[i]? = some v) Fin vs.toArray.size 0 [] news := by
  have hks : ns.length = vs.toArray.size := by rw [List.size_toArray]; exact hi.length.symm
  have key : ∀ (j i : Nat) (ys : List Value), i + j = vs.toArray.size → IntsAre ys ((ns.take i).filter p) → LCt.CompRestT prog w A h₀ L m env ct elt x scope cl s S (fun i v => vs.toArray[i]? = some v) Fin j i ys news := by
    intro j
    induction j with
    | zero =>
      intro i ys hi hy
      have e : i = ns.length := by omega
      subst e
      rw [List.take_length] at hy
      exact LCt.CompRestT.zero (fin ys hy)
    | succ j ih =>
      intro i ys hij hy
      refine LCt.CompRestT.succ ?_
      intro v I oI C oC D m₂ h tk E' hv hC hx F N off ne
      obtain ⟨k, t, hv', hk⟩ := IntsAre.at hi i v (by simpa using hv)
      rw [hv'] at hx
      refine wpAny_mono (turn k t I oI C oC D m₂ ys h tk E' (List.mem_of_getElem? hk) hC hx F N off ne) (fun ok s₂ hq => ?_) fun _ _ e => e
      cases ok with
      | true =>
        simp only [if_true] at hq ⊢
        refine wpAny_mono hq (fun y s₂ hq => ?_) fun _ _ e => e
        obtain ⟨h', tk', nw, e, F', N', off', hS, hn, hp, t', hy'⟩ := hq
        rw [hn] at N' off' hS
        refine ⟨h', tk', news, e, F', N', off', hS, ?_⟩
        rw [hy']
        refine ih (i + 1) _ (by omega) ?_
        rw [List.take_add_one, hk, List.filter_append]
        simpa [hp] using IntsAre.append hy (.cons k t' .nil)
      | false =>
        simp only [Bool.false_eq_true, if_false] at hq ⊢
        obtain ⟨h', tk', nw, e, F', N', off', hS, hn, hp⟩ := hq
        rw [hn] at N' off' hS
        refine ⟨h', tk', news, e, F', N', off', hS, ?_⟩
        refine ih (i + 1) _ (by omega) ?_
        rw [List.take_add_one, hk, List.filter_append]
        simpa [hp] using hy
  exact key _ 0 [] (by omega) (by simp only [List.take_zero, List.filter_nil]; exact .nil)
end
section
variable {w : World} {p : Program} {loose : List Str} {mean : ExcName → Option Value} {mg mb : Str → Option Value} {dp un : Nat} {gd : Option (List Code)} {cn : Str} {cs : Scope} {a : Addr} {ccd : Value} {cl : List (Str × Addr)} {outer : List Env} {A₀ : Around} {base h₀ : Heap} {L : Addr} {m : Str → Option Value} {news : List (Addr × Obj)} {s : Shared}
    {Q E : Value → Shared → Prop}
theorem off1_mem {D : Addr} : ∀ {l : List (Addr × Obj)}, LCg.Off1 D l → ∀ p ∈ l, p.1 ≠ D
  | [], _, _, h => nomatch h
  | _ :: _, x, p, h => by
    rcases List.mem_cons.mp h with rfl | h
    · exact x.1
    · exact off1_mem x.2 p h
theorem news_two {g h : Heap} {L : Addr} {p p1 p2 p3 : Addr × Obj} {news : List (Addr × Obj)} (N : News g L h (p :: p1 :: p2 :: p3 :: news)) : News g L h (p :: news) := fun q hq => N q (by
  rcases List.mem_cons.mp hq with rfl | hq
  · exact List.mem_cons_self
  · exact List.mem_cons_of_mem _ (List.mem_cons_of_mem _ (List.mem_cons_of_mem _ (List.mem_cons_of_mem _ hq))))
theorem ints_size {vs : List Value} {c : Bk} (h : IntsAre vs (skeys c)) (hc : c.length < 64) : vs.toArray.size ≤ sizeLine := by
  have e := h.length
  rw [PySem.sizeLine_eq, List.size_toArray, e, ((skeys_perm c).length_eq.trans (List.length_map _) : (skeys c).length = c.length)]
  omega
def within (c : Bk) (i j : Int) : List Int := (skeys c).filter fun k => decide (i ≤ k) && decide (k ≤ j)
local macro_rules | `(tactic| k_mem) => `(tactic| first | (with_reducible assumption) | exact List.mem_cons_self | (refine List.mem_cons_of_mem _ ?_; k_mem))
set_option maxHeartbeats 8000000 in
theorem numbers_within_spec (B : Below A₀ base outer h₀) (F : Fr h₀ L s.heap m) (X : (hd.heap_39 w.params).In h₀) (N : News h₀ L s.heap news) (T : Top p loose mean mg mb h₀) (hk : cs.kind = .function) (hd : dp + 10 < recursionLimit) (hu : un + 80 < cLine)
   (d : Addr) (o : Obj) (c : Bk) (i j : Int) (ti tj : Tok) (hm : (d, o) ∈ news) (lo : (d == sysModules) = false) (TD : TDict PR w o c) (hc : c.length < 64)
   (ret : ∀ D vs h' tk', IntsAre vs (within c i j) → Fr h₀ L h' m → News h₀ L h' ((D, LCg.lst vs) :: news) → (∀ q ∈ news, q.1 ≠ D) → Q (.ref D) { s with heap := h', toks := tk' }) :
   wpAny (model PySem.Challenge.rw_pc0001_01.row.prog w) (ktrTop dp un gd cn cs L a ccd cl outer) (call (.ref 84) [.ref d, .int i ti, .int j tj]) Q E s := by
  revert X; k_fill; intro X
  refine wpAny_call ?_
  k_dflt (refine' code_defC ?k1 ?k2 ?k3 ?k4 ?k5 ?kA ?kF ?kK ?k6 ?k7 ?k8 ?k9 ?kB ?kD ?_ ?c2 ?c3 ?c4; (case kA => exact rfl); (case kF => exact rfl); (case kK => assumption); (case k1 => k_asm); (case k2 => k_asm); (case k3 => k_asm); (case k4 => k_asm); (case k5 => k_asm); (case k6 => k_is); (case k7 => k_is); (case k8 => ktr_room); (case k9 => exact BindsTo.of_eq rfl); (case kB => exact rfl); (case kD => decide +kernel); (case c2 => exact rfl); (case c3 => exact rfl); (case c4 => exact rfl); k_whole; intro g' L' h' tk' cells' FG' F' N' Y' B' X' T' l1; k_cells Y'; (try simp only [List.cons_append, List.nil_append] at N'); (try dsimp only); (try k_fold))
  k_with_none
  repeat' (first
    | (k_unfold; (try dsimp only))
    | (k_end; wrow_close)
    | ((with_reducible show LCt.CompSrcT _ _ _ _ _ _ _ _ _ _ _ _ _ _ _); first | (with_reducible ((k_here; k_dflt (refine LCt.CompSrcT.ledger (by rfl) (by k_asm) (by k_asm) (by k_mem) (by exact ints_size (by assumption) (by assumption)) ?_; intro _; refine lct_filter _ (by assumption) (fun k' t' I' oI' C' oC' D' m' ys' h' tk' E' hk' hC' hx' F' N' off' ne' => ?_) ?_)))) | ((k_here; k_dflt (refine LCt.CompSrcT.ledger (by rfl) (by k_asm) (by k_asm) (by k_mem) (by exact ints_size (by assumption) (by assumption)) ?_; intro _; refine lct_filter _ (by assumption) (fun k' t' I' oI' C' oC' D' m' ys' h' tk' E' hk' hC' hx' F' N' off' ne' => ?_) ?_))))
    | ((with_reducible show wpAny _ _ (eval (Expr.ListComp _ _ _ _) _) _ _ _); first | (with_reducible ((k_here; k_dflt (refine LCt.ListComp_T (F₀ := by k_asm) (by with_unfolding_all rfl) (by decide) (by rfl) (by decide) (by rfl) ?_)))) | ((k_here; k_dflt (refine LCt.ListComp_T (F₀ := by k_asm) (by with_unfolding_all rfl) (by decide) (by rfl) (by decide) (by rfl) ?_))))
    | ((with_reducible show wpAny _ _ (call (Value.builtin "sorted") _) _ _ _); first | (with_reducible ((k_here; k_dflt (refine' td_sorted (by rfl) (by k_asm) (by k_asm) (by k_mem) (by assumption) (by assumption) (by assumption) ?_); intro _ _ _ _ _ _ _ _ _))) | ((k_here; k_dflt (refine' td_sorted (by rfl) (by k_asm) (by k_asm) (by k_mem) (by assumption) (by assumption) (by assumption) ?_); intro _ _ _ _ _ _ _ _ _)))
    | ((with_reducible show wpAny _ _ (exec _ _) _ _ _); k_here; k_fold; walk1)
    | walk1
    | (dsimp only; walk1)
    | (leave1; walk_say "STEP leave1"; try dsimp only)
    | fail "no step")
  refine' LCt.CompSrcT.ledger ?a ?b ?c ?d ?e ?_
  case a => rfl
  case b => k_asm
  case c => k_asm
  case d => k_mem
  case e => exact ints_size (by assumption) (by assumption)
  intro g'
  refine lct_filter (fun k => decide (i ≤ k) && decide (k ≤ j)) (by assumption) (fun k' t' I' oI' C' oC' D' m' ys' h' tk' E' hk' hC' hx' F' N' off' ne' => ?_) ?_
  · repeat' (first
      | (k_unfold; (try dsimp only))
      | (k_end; wrow_close)
      | ((with_reducible show LCt.CompSrcT _ _ _ _ _ _ _ _ _ _ _ _ _ _ _); first | (with_reducible ((k_here; k_dflt (refine LCt.CompSrcT.ledger (by rfl) (by k_asm) (by k_asm) (by k_mem) (by exact ints_size (by assumption) (by assumption)) ?_; intro _; refine lct_filter _ (by assumption) (fun k' t' I' oI' C' oC' D' m' ys' h' tk' E' hk' hC' hx' F' N' off' ne' => ?_) ?_)))) | ((k_here; k_dflt (refine LCt.CompSrcT.ledger (by rfl) (by k_asm) (by k_asm) (by k_mem) (by exact ints_size (by assumption) (by assumption)) ?_; intro _; refine lct_filter _ (by assumption) (fun k' t' I' oI' C' oC' D' m' ys' h' tk' E' hk' hC' hx' F' N' off' ne' => ?_) ?_))))
      | ((with_reducible show wpAny _ _ (eval (Expr.ListComp _ _ _ _) _) _ _ _); first | (with_reducible ((k_here; k_dflt (refine LCt.ListComp_T (F₀ := by k_asm) (by with_unfolding_all rfl) (by decide) (by rfl) (by decide) (by rfl) ?_)))) | ((k_here; k_dflt (refine LCt.ListComp_T (F₀ := by k_asm) (by with_unfolding_all rfl) (by decide) (by rfl) (by decide) (by rfl) ?_))))
      | ((with_reducible show wpAny _ _ (call (Value.builtin "sorted") _) _ _ _); first | (with_reducible ((k_here; k_dflt (refine' td_sorted (by rfl) (by k_asm) (by k_asm) (by k_mem) (by assumption) (by assumption) (by assumption) ?_); intro _ _ _ _ _ _ _ _ _))) | ((k_here; k_dflt (refine' td_sorted (by rfl) (by k_asm) (by k_asm) (by k_mem) (by assumption) (by assumption) (by assumption) ?_); intro _ _ _ _ _ _ _ _ _)))
      | ((with_reducible show wpAny _ _ (exec _ _) _ _ _); k_here; k_fold; walk1)
      | walk1
      | (dsimp only; walk1)
      | (leave1; walk_say "STEP leave1"; try dsimp only)
      | fail "no step")
    · exact ⟨h', _, _, rfl, F', N', off', .inr ⟨_, List.mem_cons_self, rfl, _, rfl⟩, rfl, by simp [*], _, rfl⟩
    all_goals exact ⟨h', _, _, rfl, F', N', off', .inr ⟨_, List.mem_cons_self, rfl, _, rfl⟩, rfl, by simp [*]⟩
  · intro ys' hy'
    repeat' (first
      | (k_unfold; (try dsimp only))
      | (k_end; wrow_close)
      | ((with_reducible show LCt.CompSrcT _ _ _ _ _ _ _ _ _ _ _ _ _ _ _); first | (with_reducible ((k_here; k_dflt (refine LCt.CompSrcT.ledger (by rfl) (by k_asm) (by k_asm) (by k_mem) (by exact ints_size (by assumption) (by assumption)) ?_; intro _; refine lct_filter _ (by assumption) (fun k' t' I' oI' C' oC' D' m' ys' h' tk' E' hk' hC' hx' F' N' off' ne' => ?_) ?_)))) | ((k_here; k_dflt (refine LCt.CompSrcT.ledger (by rfl) (by k_asm) (by k_asm) (by k_mem) (by exact ints_size (by assumption) (by assumption)) ?_; intro _; refine lct_filter _ (by assumption) (fun k' t' I' oI' C' oC' D' m' ys' h' tk' E' hk' hC' hx' F' N' off' ne' => ?_) ?_))))
      | ((with_reducible show wpAny _ _ (eval (Expr.ListComp _ _ _ _) _) _ _ _); first | (with_reducible ((k_here; k_dflt (refine LCt.ListComp_T (F₀ := by k_asm) (by with_unfolding_all rfl) (by decide) (by rfl) (by decide) (by rfl) ?_)))) | ((k_here; k_dflt (refine LCt.ListComp_T (F₀ := by k_asm) (by with_unfolding_all rfl) (by decide) (by rfl) (by decide) (by rfl) ?_))))
      | ((with_reducible show wpAny _ _ (call (Value.builtin "sorted") _) _ _ _); first | (with_reducible ((k_here; k_dflt (refine' td_sorted (by rfl) (by k_asm) (by k_asm) (by k_mem) (by assumption) (by assumption) (by assumption) ?_); intro _ _ _ _ _ _ _ _ _))) | ((k_here; k_dflt (refine' td_sorted (by rfl) (by k_asm) (by k_asm) (by k_mem) (by assumption) (by assumption) (by assumption) ?_); intro _ _ _ _ _ _ _ _ _)))
      | ((with_reducible show wpAny _ _ (exec _ _) _ _ _); k_here; k_fold; walk1)
      | walk1
      | (dsimp only; walk1)
      | (leave1; walk_say "STEP leave1"; try dsimp only)
      | fail "no step")
    exact ret _ _ _ _ hy' (by assumption) (news_two (by assumption)) (off1_mem (by rename_i o1' _ _ _ _; exact o1'.2.2.2))
end
end Mine
end

/-! part E1 -/
section
open PySem PySem.W PyProof.Rows PyProof.V
open PySem.Spec PySem.Calls
set_option maxRecDepth 100000
set_option linter.unusedVariables false
namespace Mine
abbrev bmE : List Value := [.type "Exception", .type "BaseException", .type "object"]
abbrev objB : Obj := excClassObj "BasicError" "BasicError" 34 33 [.type "Exception"] bmE true [] [] false none none (some (.ref 15)) none (some (.str "BasicError" 189)) (some (.str "BasicError" 197)) (some (.bool true)) "Exception.__new__"
theorem look34 (P : Params) : (hd.heap_39 P).lookup 34 = some objB := by kernel_rfl
theorem at34 {P : Params} {h : Heap} (X : (hd.heap_39 P).In h) : h.get? 34 = some objB := X _ _ (look34 P)
theorem entry_wg : entryFor table "wrapper_descriptor.__get__" = some Builtin.«wrapper_descriptor.__get__» := entryFor_of_tree (by kernel_rfl)
theorem slot_wg : Slot "wrapper_descriptor" "__get__" "wrapper_descriptor.__get__" := .of (owner := "wrapper_descriptor") (n := "__get__") (by rw [typeLookup_type, builtinLookup_eq_fast]; kernel_rfl) (by decide +kernel) (by decide +kernel) (by decide +kernel)
  (by first | exact .inl (by decide +kernel) | exact .inr (by decide +kernel)) (by rw [isSubtype_type]; kernel_rfl)
theorem args_wg (a b c : Value) : argsOk "wrapper_descriptor.__get__" ⟨[a, b, c], []⟩ := by unfold argsOk; kernel_rfl
theorem type_xi : typeOf (.builtin "Exception.__init__") = pure (.type "wrapper_descriptor") := by kernel_rfl
theorem own_xi : classOwn (.type "Exception") "__init__" = pure (some (.builtin "Exception.__init__")) := by
  show (pure (builtinOwn "Exception" "__init__") : Sem (Option Value)) = _
  rw [builtinOwn_eq_fast]; kernel_rfl
section
variable {prog : Program} {w : World} {A : Around} {E : Value → Shared → Prop} {h : Heap} {g : Array GenState} {d : Drawn} {t : Nat} {os : OsState} {P : Params}
theorem isE {x : Addr} {ox : Obj} {Q : Bool → Shared → Prop} {M : Model} (X : (hd.heap_39 P).In h) (hx : h.get? x = some ox) (hc : ox.cls = .ref 34) (hq : Q true ⟨h, g, d, t, os⟩) : wpAny M A (isInstance (.ref x) (.type "Exception")) Q E ⟨h, g, d, t, os⟩ := by
  have hcB : (Value.ref 34 :: bmE).contains (.type "Exception") = true := by decide +kernel
  unfold isInstance
  repeat (first | (with_reducible refine wpAny_loadPart_at hx ?_; rw [hc]) | (with_reducible refine wpAny_isSubtype_exc (at34 X) ?_; rw [hcB]) | wp_step)
  exact hq
theorem wg_run {x : Addr} {ox : Obj} {Q : Value → Shared → Prop} (X : (hd.heap_39 P).In h) (hx : h.get? x = some ox) (hc : ox.cls = .ref 34)
    (hq : Q (.ref h.objs.size) ⟨h.push { cls := .type "method-wrapper", data := .fields #[.builtin "Exception.__init__", .ref x] }, g, d, t, os⟩) :
    wpAny (model prog w) A (call (.builtin "wrapper_descriptor.__get__") [.builtin "Exception.__init__", .ref x, .ref 34]) Q E ⟨h, g, d, t, os⟩ := by
  refine wpAny_call_entry slot_wg type_xi entry_wg ?_ (args_wg _ _ _)
  unfold Builtin.«wrapper_descriptor.__get__»
  have s1 : (Value.ref x == Value.none) = false := rfl
  have s2 : (Value.ref 34 == Value.none) = false := rfl
  show wpAny _ _ (isInstance (.ref x) (.type "Exception") >>= _ >>= _) _ _ _
  refine wpAny_bind (wpAny_bind (isE X hx hc ?_))
  refine wpAny_pure ?_
  refine wpAny_bind (wpAny_newObj_type ?_ (by size_fits))
  exact wpAny_pure ⟨_, rfl, hq⟩

abbrev mwObj (x : Addr) : Obj := { cls := .type "method-wrapper", data := .fields #[.builtin "Exception.__init__", .ref x] }
theorem look_opaque {M : Model} (X : (hd.heap_39 P).In h) : Looks M h (opaqueClassAbove (.ref 34)) none := looks_opaque X (by kernel_rfl)
theorem mro34 {M : Model} (X : (hd.heap_39 P).In h) : Looks M h (mroOf (.ref 34)) (.ref 34 :: bmE) := fun A Q E s k q => by
  obtain ⟨hp, g, d, t, os⟩ := s
  exact wpAny_mroOf_exc (k _ _ (at34 X)) q
theorem super_ga {so x : Addr} {ox : Obj} {tk : Tok} {Q : Fin → Shared → Prop} (X : (hd.heap_39 P).In h) (hso : h.get? so = some (ks_superObj 34 x 34)) (hx : h.get? x = some ox) (hc : ox.cls = .ref 34) (hx34 : x ≠ 34)
    (hq : Q (.done (.ret (.ref h.objs.size))) ⟨h.push (mwObj x), g, d, t, os⟩) :
    wpAny (model prog w) A (Builtin.«super.__getattribute__» ⟨[.ref so, .str "__init__" tk], []⟩) Q E ⟨h, g, d, t, os⟩ := by
  have hne : (Value.ref x == Value.ref 34) = false := by simp [hx34]
  have hdt : (ks_superObj 34 x 34).data = .fields #[.ref 34, .ref x, .ref 34] := rfl
  have f0 : (#[.ref 34, .ref x, .ref 34] : Array Value)[0]? = some (.ref 34) := rfl
  have f1 : (#[.ref 34, .ref x, .ref 34] : Array Value)[1]? = some (.ref x) := rfl
  have f2 : (#[.ref 34, .ref x, .ref 34] : Array Value)[2]? = some (.ref 34) := rfl
  have hl : ((Value.ref 34 :: bmE).dropWhile (· != Value.ref 34)).drop 1 = bmE := by decide +kernel
  have hlk := slot_wg.lookup
  have hn : (("__init__" : Str) == ("__class__" : Str)) = false := by decide
  have hT := type_xi
  unfold Builtin.«super.__getattribute__»
  repeat (first
    | (with_reducible refine wpAny_field hso hdt f0 ?_) | (with_reducible refine wpAny_field hso hdt f1 ?_) | (with_reducible refine wpAny_field hso hdt f2 ?_)
    | (with_reducible refine ks_wpAny_notOpaque (look_opaque X) ?_)
    | (with_reducible refine Looks.at (mro34 X) ?_; rw [hl])
    | (rw [List.forIn_cons])
    | (with_reducible refine wpAny_of_eq own_xi ?_)
    | (with_reducible refine wpAny_of_eq type_xi ?_)
    | (with_reducible refine wpAny_of_eq hlk ?_)
    | (rw [hne])
    | (with_reducible refine wg_run X hx hc ?_)
    | (simp only [hn, Bool.or_false, Bool.false_eq_true, if_false])
    | wp_step
    | dsimp only)
  all_goals exact hq
theorem super_getMethod {so x : Addr} {ox : Obj} {pl : Sem Bool} {Q : Value × List Value → Shared → Prop} (X : (hd.heap_39 P).In h) (hso : h.get? so = some (ks_superObj 34 x 34)) (hx : h.get? x = some ox) (hc : ox.cls = .ref 34) (hx34 : x ≠ 34)
    (hq : Q (.ref h.objs.size, []) ⟨h.push (mwObj x), g, d, t + 1, os⟩) :
    wpAny (model prog w) A (getMethod (.ref so) "__init__" pl) Q E ⟨h, g, d, t, os⟩ := by
  have hlk := PySem.F.ks_slot_super_ga.lookup
  have hcan := PySem.F.ks_canon_super_ga
  have hT : ∀ t', (⟨h, g, d, t', os⟩ : Shared).TypeIs (.ref so) "super" := fun _ => ⟨_, hso, rfl⟩
  unfold getMethod
  refine wpAny_bind (wpAny_specialOf (hT _) hlk ?_)
  show wpAny _ _ (if (Manifest.canonical "super.__getattribute__" != "object.__getattribute__") = true then _ else _) _ _ _
  rw [if_pos hcan]
  unfold getAttr getAttrBy
  refine wpAny_bind (wpAny_bind (wpAny_mkText (wpAny_holding (wpAny_bind (wpAny_typeOf (hT _) (wpAny_bind (wpAny_of_eq hlk ?_)))))))
  show wpAny _ _ (getAttrByItsOwn (.ref so) (.str "__init__" t) (.type "super") (.builtin "super.__getattribute__") true false) _ _ _
  unfold getAttrByItsOwn hookBefore callGetattribute boundAndCalled
  refine wpAny_bind (wpAny_of_eq (show (if onTheHeap (.type "super") then typeLookup (.type "super") "__getattr__" else pure none) = pure none from rfl) ?_)
  refine wpAny_bind (wpAny_attempt (wpAny_holding ?_))
  show wpAny _ _ (bindSpecial (.builtin "super.__getattribute__") (.ref so) >>= _) _ _ _
  refine wpAny_bind (wpAny_of_eq (PySem.F.ks_slot_super_ga.bind _) ?_)
  refine wpAny_mono (Q := fun v s' => v = .ref h.objs.size ∧ s' = ⟨h.push (mwObj x), g, d, t + 1, os⟩) (E := fun _ _ => False)
    (wpAny_call_entry PySem.F.ks_slot_super_ga (hT _) PySem.F.ks_entry_super_ga (super_ga X hso hx hc hx34 ⟨_, rfl, rfl, rfl⟩) (PySem.F.ks_gaArgs_super _ _)) (fun v s' hv => ?_) fun _ _ z => z.elim
  obtain ⟨rfl, rfl⟩ := hv
  exact wpAny_pure (wpAny_pure hq)
theorem bound_xi {M : Model} {x : Addr} {ox : Obj} {b : Value} {Q : Unit → Shared → Prop} (X : (hd.heap_39 P).In h) (hx : h.get? x = some ox) (hc : ox.cls = .ref 34) (hq : Q () ⟨h, g, d, t, os⟩) : wpAny M A (checkBoundCall "Exception.__init__" ⟨[.ref x, b], []⟩) Q E ⟨h, g, d, t, os⟩ := by
  have F := PySem.F.excBase_Exception
  have hshort := F.noStar
  have hcB : (Value.ref 34 :: bmE).contains (.type "Exception") = true := by decide +kernel
  simp only [checkBoundCall, F.initKind, F.initRow]
  rw [if_pos (by decide)]
  have hC := at34 X
  repeat (first | with_reducible refine wpAny_load hC ?_ | (with_reducible refine wpAny_loadPart_at hx ?_; rw [hc]) | with_reducible refine wpAny_loadPart_at (at34 X) ?_ | (with_reducible refine wpAny_isSubtype_exc (at34 X) ?_; rw [hcB]) | wp_step)
  exact hq
abbrev excObj (t : Addr) (dx : Option Addr) : Obj := { cls := .ref 34, dict := dx, data := .fields #[.ref t, .none, .none, .none, .bool false, .none] }
theorem mw_call {q x t0 : Addr} {dx : Option Addr} {v : Value} {Q : Value → Shared → Prop} (X : (hd.heap_39 P).In h) (hqo : h.get? q = some (mwObj x)) (hx : h.get? x = some (excObj t0 dx))
    (hq : ∀ h', h'.get? x = some (excObj h.objs.size dx) → h'.get? h.objs.size = some { cls := .type "tuple", data := .seq [v].toArray } → (∀ b o, b ≠ x → h.get? b = some o → h'.get? b = some o) → Q .none ⟨h', g, d, t, os⟩) :
    wpAny (model prog w) A (call (.ref q) [v]) Q E ⟨h, g, d, t, os⟩ := by
  refine wpAny_call (codeAny_of_tree ?_)
  show wpAny _ _ (callAny (.ref q) _) _ _ _
  unfold callAny
  refine wpAny_bind (wpAny_load hqo ?_)
  show wpAny _ _ (checkBoundCall "Exception.__init__" ⟨[.ref x, v], []⟩ >>= _) _ _ _
  refine wpAny_bind (bound_xi X hx rfl ?_)
  refine wpAny_pure ⟨Code.quiet_builtin _ (by decide +kernel), codeAny_builtin PySem.F.excBase_Exception.initEntry ?_⟩
  wp_walk
  have hxs : x ≠ h.objs.size := Nat.ne_of_lt (Heap.lt_size hx)
  refine hq _ ?_ ?_ ?_
  · exact Heap.get?_update_self _ (Heap.get?_push_of_some _ hx) rfl
  · exact (Heap.get?_update_ne _ _ _ _ (Ne.symm hxs)).trans (Heap.get?_push_at rfl rfl)
  · exact fun b o hb e => (Heap.get?_update_ne _ _ _ _ hb).trans (Heap.get?_push_of_some _ e)
theorem lk_code : typeLookup (.type "Exception") "code" = pure none := by rw [typeLookup_type, builtinLookup_eq_fast]; kernel_rfl
theorem lk_told : typeLookup (.type "Exception") "told" = pure none := by rw [typeLookup_type, builtinLookup_eq_fast]; kernel_rfl
def es33 (P : Params) : Array DictEntry := #[{ hash := PyData.keyHash P (Str.ofString "__module__"), key := Value.str (Str.ofString "__module__") 196, val := Value.str (Str.ofString "basicplus.values") 187 }, { hash := PyData.keyHash P (Str.ofString "__firstlineno__"), key := Value.str (Str.ofString "__firstlineno__") 200, val := Value.int 2 199 }, { hash := PyData.keyHash P (Str.ofString "__init__"), key := Value.str (Str.ofString "__init__") 211, val := Value.ref 31 }, { hash := PyData.keyHash P (Str.ofString "__static_attributes__"), key := Value.str (Str.ofString "__static_attributes__") 214, val := Value.ref 32 }, { hash := PyData.keyHash P (Str.ofString "__weakref__"), key := Value.str (Str.ofString "__weakref__") 217, val := Value.ref 35 }, { hash := PyData.keyHash P (Str.ofString "__doc__"), key := Value.str (Str.ofString "__doc__") 218, val := Value.none }]
theorem look33 (P : Params) : (hd.heap_39 P).lookup 33 = some { cls := Value.type "dict", data := Data.dict (es33 P) 4 } := by kernel_rfl
def mN34 (P : Params) : Str → Option Value := nsFind (es33 P)
theorem ns33 (X : (hd.heap_39 P).In h) : h.Ns 33 (mN34 P) := by
  refine ⟨_, _, _, X _ _ (look33 P), rfl, ?_, fun _ => rfl⟩
  intro e he
  simp only [es33, List.mem_toArray, List.mem_cons, List.not_mem_nil, or_false] at he
  rcases he with rfl | rfl | rfl | rfl | rfl | rfl <;> exact ⟨_, _, rfl⟩
theorem mN_init : mN34 P "__init__" = some (.ref 31) := by kernel_rfl
theorem mN_setattr : mN34 P "__setattr__" = none := by kernel_rfl
theorem mN_getattribute : mN34 P "__getattribute__" = none := by kernel_rfl
theorem mN_getattr : mN34 P "__getattr__" = none := by kernel_rfl
theorem mN_code : mN34 P "code" = none := by kernel_rfl
theorem mN_told : mN34 P "told" = none := by kernel_rfl
theorem lx_entry {x : Addr} {tk : Tok} {mA : Str → Option Value} {v : Value} {Q : Fin → Shared → Prop}
    (X : (hd.heap_39 P).In h) (I : h.Inst x 34 mA) (hv : mA "code" = some v) (hq : Q (.done (.ret v)) ⟨h, g, d, t, os⟩) :
    wpAny (model prog w) A (Builtin.«object.__getattribute__» ⟨[.ref x, .str "code" tk], []⟩) Q E ⟨h, g, d, t, os⟩ := by
  have hn := ns33 X
  have hC := at34 X
  obtain ⟨o, hx, hc, hnc, hd⟩ := I
  rcases hd with ⟨_, hmA⟩ | ⟨dx, hdx, hne, hns⟩
  · rw [hmA] at hv; cases hv
  have hm := PySem.F.excBase_Exception.mroIs
  unfold Builtin.«object.__getattribute__»
  repeat (first | (with_reducible refine wpAny_loadPart_at hx ?_; rw [hc]) | (with_reducible refine wpAny_typeLookup_exc hC hn hm lk_code ?_; rw [mN_code]) | wp_step)
  split
  · rename_i c hcd
    exact absurd hcd (hnc c)
  unfold instanceDict
  repeat (first | (with_reducible refine wpAny_loadPart_at hx ?_; rw [hc]) | with_reducible refine wpAny_loadPart_at hC ?_ | wp_step)
  rw [hdx]
  repeat (first | (with_reducible refine wpAny_nsGet hns.ns ?_; rw [hv]) | wp_step)
  exact hq
theorem lx_check {M : Model} {x : Addr} {ox : Obj} {nameV : Value} {Q : Unit → Shared → Prop} (X : (hd.heap_39 P).In h) (hx : h.get? x = some ox) (hc : ox.cls = .ref 34) (hq : Q () ⟨h, g, d, t, os⟩) :
    wpAny M A (checkBuiltinCall "BaseException.__getattribute__" ⟨[.ref x, nameV], []⟩) Q E ⟨h, g, d, t, os⟩ := by
  have hk : builtinKind "BaseException.__getattribute__" = some .slot := by decide +kernel
  have hsplit : splitId "BaseException.__getattribute__" = some ("BaseException", "__getattribute__") := by decide +kernel
  have hcB : (Value.ref 34 :: bmE).contains (.type "BaseException") = true := by decide +kernel
  have ha := PySem.F.args_bexc_ga (.ref x) nameV
  have hC := at34 X
  simp only [checkBuiltinCall, hk, hsplit]
  refine wpAny_bind ?_
  unfold isInstance
  repeat (first | (with_reducible refine wpAny_loadPart_at hx ?_; rw [hc]) | (with_reducible refine wpAny_isSubtype_exc hC ?_; rw [hcB]) | wp_step)
  exact hq
theorem lx_by {x : Addr} {tk : Tok} {fill expr : Bool} {mA : Str → Option Value} {v : Value} {Q : Value → Shared → Prop}
    (X : (hd.heap_39 P).In h) (I : h.Inst x 34 mA) (hv : mA "code" = some v) (hh : handedOut v = pure v) (hq : Q v ⟨h, g, d, t, os⟩) :
    wpAny (model prog w) A (getAttrBy (.ref x) (.str "code" tk) fill expr) Q E ⟨h, g, d, t, os⟩ := by
  have FB := PySem.F.attrBase_Exception
  have f3 := FB.ga.bind (.ref x)
  have hx0 : (expr && onTheHeap (Value.builtin "BaseException.__getattribute__")) = false := by cases expr <;> rfl
  have hx2 : (Value.builtin "BaseException.__getattribute__" == Value.builtin "object.__getattribute__") = false := by decide +kernel
  have hx1 : (onTheHeap (Value.ref 34) && Value.builtin "BaseException.__getattribute__" == Value.builtin "object.__getattribute__") = false := by rw [hx2]; rfl
  have hn := ns33 X
  have hC := at34 X
  have hm := PySem.F.excBase_Exception.mroIs
  obtain ⟨ox, hx, hc, _⟩ := id I
  repeat (any_goals (first | assumption | (with_reducible refine wpAny_loadPart_at hx ?_; rw [hc]) | (with_reducible refine wpAny_typeLookup_exc hC hn hm FB.ga.lookup ?_; rw [mN_getattribute]) | (with_reducible refine wpAny_typeLookup_exc hC hn hm FB.noGetattr ?_; rw [mN_getattr]) | wp_step))
  refine codeAny_call_builtin FB.ga.plain PySem.F.entry_bexc_ga (lx_check X hx hc (lx_entry X I hv ?_))
  repeat (any_goals (first | assumption | wp_step))
theorem load_exc {x : Addr} {expr : Bool} {mA : Str → Option Value} {v : Value} {Q : Value → Shared → Prop}
    (X : (hd.heap_39 P).In h) (I : h.Inst x 34 mA) (hv : mA "code" = some v) (hh : handedOut v = pure v) (hq : Q v ⟨h, g, d, t + 1, os⟩) :
    wpAny (model prog w) A (getAttr (.ref x) "code" expr) Q E ⟨h, g, d, t, os⟩ := by
  unfold getAttr
  exact wpAny_bind (wpAny_mkText (lx_by X I hv hh hq))
end
end Mine
end

/-! part E2 -/
section
open PySem PySem.W PyProof.Rows PyProof.V
open PySem.Spec PySem.Calls
set_option maxRecDepth 100000
set_option linter.unusedVariables false
namespace Mine
theorem fresh_E2 : True := by
  w_top off
  trivial
abbrev PRM : Program := PySem.Challenge.rw_pc0001_01.row.prog
def mEx (c : Str) (tc : Tok) (told : Value) : Str → Option Value := fun y => if y = "told" then some told else if y = "code" then some (.str c tc) else none
theorem fn31 {P : Params} {h : Heap} (X : (hd.heap_39 P).In h) : ∃ o, h.get? 31 = some o ∧ o.cls = .type "function" := by
  have e : ((hd.heap_39 P).lookup 31).map (·.cls) = some (.type "function") := by kernel_rfl
  cases q : (hd.heap_39 P).lookup 31 with
  | none => rw [q] at e; cases e
  | some o => rw [q] at e; exact ⟨o, X _ _ q, Option.some.inj e⟩
section
variable {w : World} {p : Program} {loose : List Str} {mean : ExcName → Option Value} {mg mb : Str → Option Value} {dp un : Nat} {gd : Option (List Code)} {cn : Str} {cs : Scope} {a : Addr} {ccd : Value} {cl : List (Str × Addr)} {outer : List Env} {A₀ : Around} {base h₀ : Heap} {L : Addr} {m : Str → Option Value} {news : List (Addr × Obj)} {s : Shared}
    {Q E : Value → Shared → Prop}
theorem callWith_mw0 {M : Model} {A : Around} {pos : Pos} {u x : Addr} {first : List Value} {args : List (Bool × Sem Value)} (hplain : args.any (·.1) = false)
    (h : wpAny M A (evalArgs (.ref u) true args []) (fun y s₁ => s₁.heap.get? u = some (mwObj x) ∧ wpAny M A (call (.ref u) (first ++ y.pos) y.kw) Q E s₁) E s) : wpAny M A (callWith pos (.ref u) first args []) Q E s := by
  unfold callWith
  refine wpAny_bind (wpAny_holding (wpAny_mono h (fun y s₁ h₁ => wpAny_bind (wpAny_standAt ?_)) fun _ _ z => z))
  obtain ⟨ho, hcall⟩ := h₁
  simp only [hplain, List.any_nil, Bool.or_false]
  refine wpAny_bind (m := keeperOf (.ref u)) ?_
  unfold keeperOf
  refine wpAny_bind (wpAny_load ho ?_)
  simp only [show (Value.type "method-wrapper" != Value.type "method") = true by decide, show (Value.type "method-wrapper" == Value.type "builtin_function_or_method" || Value.type "method-wrapper" == Value.type "method-wrapper") = true by decide, if_true]
  refine wpAny_pure ?_
  exact wpAny_bind (wpAny_mono hcall (fun r s₂ hr => wpAny_bind (wpAny_holding (wpAny_point (wpAny_pure hr)))) fun _ _ z => z)
theorem callWith_mw {M : Model} {A : Around} {pos : Pos} {u x : Addr} {first : List Value} {env : Env} {ex : PySem.Expr} {rest : List PySem.Expr}
    (h : wpAny M A (spliced (backTo pos (starEach (ex :: rest) env))) (fun vs s₁ => s₁.heap.get? u = some (mwObj x) ∧ wpAny M A (call (.ref u) (first ++ vs)) Q E s₁) E s)
    (he : starEach (ex :: rest) env = (false, eval ex env) :: starEach rest env := by rfl) (hplain : (backTo pos (starEach rest env)).any (·.1) = false := by rfl) :
    wpAny M A (callWith pos (.ref u) first (backTo pos (starEach (ex :: rest) env)) []) Q E s := by
  rw [he] at h ⊢
  exact callWith_mw0 (by show (false || (backTo pos (starEach rest env)).any (·.1)) = false; rw [hplain]; rfl) (evalArgs_plain h)
def DictNs (o : Obj) (mm : Str → Option Value) : Prop := ∀ (h : Heap) (a : Addr), h.get? a = some o → h.Ns1 a mm
theorem ns1_obj {h : Heap} {a : Addr} {mm : Str → Option Value} (x : h.Ns1 a mm) : ∃ o, h.get? a = some o ∧ DictNs o mm := by
  obtain ⟨o, es, ep, e, r⟩ := x
  exact ⟨o, e, fun h a e => ⟨o, es, ep, e, r⟩⟩
open Builtin Builtin.ObjectAttr in
theorem first_entry {prog : Program} {A : Around} {h : Heap} {g : Array GenState} {d : Drawn} {t : Nat} {os : OsState} {P : Params} {e t1 : Addr} {tk : Tok} {name : Str} {v : Value} {Q : PySem.Fin → Shared → Prop} (X : (hd.heap_39 P).In h) (he : h.get? e = some (excObj t1 none)) (hna : mN34 P name = none) (hB : typeLookup (.type "Exception") name = pure none)
    (hq : ∀ h' tk', h'.get? e = some (excObj t1 (some h.objs.size)) → h'.Ns1 h.objs.size (fun y => if y = name then some v else none) → (∀ b o, b ≠ e → h.get? b = some o → h'.get? b = some o) → Q (.done (.ret .none)) ⟨h', g, d, tk', os⟩) :
    wpAny (model prog w) A (Builtin.«object.__setattr__» ⟨[.ref e, .str name tk, v], []⟩) Q E ⟨h, g, d, t, os⟩ := by
  have hC := at34 X
  have hn := ns33 X
  have SF := PySem.F.store_Exception
  have hpass := SF.passes (.ref e)
  obtain ⟨o, hoe⟩ : ∃ o : Obj, o = excObj t1 none := ⟨_, rfl⟩
  rw [← hoe] at he
  have hc : o.cls = .ref 34 := by rw [hoe]
  have hdn : o.dict = none := by rw [hoe]
  have hdd : o.data = .fields #[.ref t1, .none, .none, .none, .bool false, .none] := by rw [hoe]
  unfold Builtin.«object.__setattr__»
  repeat (first | rw [refuse_eq] | (rw [refuseLoop_ref, hpass]) | (with_reducible refine wpAny_loadPart_at he ?_; rw [hc]) | with_reducible refine wpAny_mroOf_exc hC ?_ | (with_reducible refine wpAny_typeLookup_exc hC hn SF.mro hB ?_; rw [hna]) | wp_step)
  rw [hdn, if_neg (by simp [typeHasDict])]
  split
  · rename_i hcd
    cases hcd
  split
  · rename_i c hcd
    rw [hdd] at hcd; cases hcd
  have hx₁ : (h.push { cls := .type "dict", data := .dict #[] }).get? e = some o := Heap.get?_push_of_some _ he
  have hxs : e ≠ h.objs.size := Nat.ne_of_lt (Heap.lt_size he)
  refine wpAny_bind (wpAny_alloc' ?_)
  refine wpAny_bind (wpAny_update' hx₁ ?_)
  refine wpAny_pure ?_
  have hgd : ((h.push { cls := .type "dict", data := .dict #[] }).update e fun o => { cls := o.cls, dict := some h.objs.size, data := o.data, slots := o.slots }).get? h.objs.size = some { cls := .type "dict", data := .dict #[] } :=
    (Heap.get?_update_ne _ _ _ _ hxs.symm).trans (Heap.get?_push_at rfl rfl)
  have hnd : ((h.push { cls := .type "dict", data := .dict #[] }).update e fun o => { cls := o.cls, dict := some h.objs.size, data := o.data, slots := o.slots }).Ns h.objs.size (fun _ => none) :=
    ⟨_, #[], _, hgd, rfl, fun _ he => absurd he (by simp), fun _ => rfl⟩
  show wpAny _ _ (storeInDict h.objs.size (.str name tk) name v) _ _ _
  unfold storeInDict newKeyGuard
  refine wpAny_bind (wpAny_pure (wpAny_bind (wpAny_nsSet1 (Heap.Ns1.of_empty hnd) fun h' hn' hs => ?_)))
  obtain ⟨oD, esD, epD, hoD, hdD, hcD⟩ := hn'.count (Within.cons name v Within.nil)
  refine wpAny_bind (wpAny_lookBehind hoD (by rw [hdD]; exact pastItsLine_dict (Nat.le_trans hcD (by rw [List.length_cons, List.length_nil, sizeLine_eq]; omega))) ?_)
  wp_walk
  refine hq h' _ ((hs.2 e hxs).trans ((Heap.get?_update_self _ hx₁ (by rw [hoe]; rfl)).trans (by rw [hoe]))) hn' (fun b ob hb eb => ?_)
  exact (hs.2 b (Nat.ne_of_lt (Heap.lt_size eb))).trans ((Heap.get?_update_ne _ _ _ _ hb).trans (Heap.get?_push_of_some _ eb))
theorem first_call {prog : Program} {A : Around} {h : Heap} {g : Array GenState} {d : Drawn} {t : Nat} {os : OsState} {P : Params} {e t1 : Addr} {tk : Tok} {name : Str} {v : Value} {R : Result → Shared → Prop} (X : (hd.heap_39 P).In h) (he : h.get? e = some (excObj t1 none)) (hna : mN34 P name = none) (hB : typeLookup (.type "Exception") name = pure none)
    (hq : ∀ h' tk', h'.get? e = some (excObj t1 (some h.objs.size)) → h'.Ns1 h.objs.size (fun y => if y = name then some v else none) → (∀ b o, b ≠ e → h.get? b = some o → h'.get? b = some o) → R (.ok (.ret .none)) ⟨h', g, d, tk', os⟩) :
    codeAny (model prog w) A (.call (.builtin "object.__setattr__") ⟨[.ref e, .str name tk, v], []⟩) R ⟨h, g, d, t, os⟩ := by
  have SF := PySem.F.store_Exception
  have hC := at34 X
  refine codeAny_call_builtin SF.slot.plain SF.entry ?_
  have hc : (excObj t1 none).cls = .ref 34 := rfl
  with_reducible refine wpAny_check_sa SF hC he hc ?_
  refine first_entry X he hna hB ?_
  exact hq
theorem first_attr {prog : Program} {A : Around} {h : Heap} {g : Array GenState} {d : Drawn} {t : Nat} {os : OsState} {P : Params} {e t1 : Addr} {name : Str} {v : Value} {Q : Unit → Shared → Prop} (X : (hd.heap_39 P).In h) (he : h.get? e = some (excObj t1 none)) (hna : mN34 P name = none) (hB : typeLookup (.type "Exception") name = pure none)
    (hq : ∀ h' tk', h'.get? e = some (excObj t1 (some h.objs.size)) → h'.Ns1 h.objs.size (fun y => if y = name then some v else none) → (∀ b o, b ≠ e → h.get? b = some o → h'.get? b = some o) → Q () ⟨h', g, d, tk', os⟩) :
    wpAny (model prog w) A (setAttr (.ref e) name v) Q E ⟨h, g, d, t, os⟩ := by
  have hC := at34 X
  have hn := ns33 X
  have SF := PySem.F.store_Exception
  have hc : (excObj t1 none).cls = .ref 34 := rfl
  have f3 := SF.slot.bind (.ref e)
  unfold setAttr callSpecial? specialOf
  repeat (any_goals (first | assumption | (with_reducible refine wpAny_loadPart_at he ?_; rw [hc]) | (with_reducible refine wpAny_typeLookup_exc hC hn SF.mro SF.slot.lookup ?_; rw [mN_setattr]) | wp_step))
  refine first_call X he hna hB (fun h' tk' a1 a2 a3 => ?_)
  repeat (any_goals (first | assumption | wp_step))
  exact hq h' tk' a1 a2 a3
theorem set_first {prog : Program} {A : Around} {e t1 : Addr} {name : Str} {v : Value} {Q : Unit → Shared → Prop}
    (F : Fr h₀ L s.heap m) (N : News h₀ L s.heap news) (X : (hd.heap_39 w.params).In h₀) (he : s.heap.get? e = some (excObj t1 none)) (he0 : h₀.get? e = none) (hLe : L ≠ e) (hne : ∀ q ∈ news, q.1 ≠ e)
    (hna : mN34 w.params name = none) (hB : typeLookup (.type "Exception") name = pure none)
    (hq : ∀ h' tk' dx odx, Fr h₀ L h' m → News h₀ L h' ((dx, odx) :: news) → h'.get? e = some (excObj t1 (some dx)) → DictNs odx (fun y => if y = name then some v else none) → dx ≠ e → (∀ q ∈ news, q.1 ≠ dx) → Q () { s with heap := h', toks := tk' }) :
    wpAny (model prog w) A (setAttr (.ref e) name v) Q E s := by
  obtain ⟨h, g, d, t, os⟩ := s
  have Xh := X.keeps F.keep
  refine first_attr Xh he hna hB fun h' tk' a1 a2 a3 => ?_
  obtain ⟨odx, ho, hD⟩ := ns1_obj a2
  have keep : ∀ b o, h₀.get? b = some o → h'.get? b = some o := fun b o eb => a3 b o (fun q => by rw [q, he0] at eb; cases eb) (F.keep b o eb)
  have hLs : L ≠ h.objs.size := Nat.ne_of_lt F.ns.lt
  have hd0 : h₀.get? h.objs.size = none := by
    cases q : h₀.get? h.objs.size with
    | none => rfl
    | some o => exact absurd (Heap.lt_size (F.keep _ _ q)) (Nat.lt_irrefl _)
  refine hq h' tk' _ odx ⟨F.ns.at' fun o eb => a3 L o hLe eb, keep, F.above⟩ (fun q hq => ?_) a1 hD (Ne.symm (Nat.ne_of_lt (Heap.lt_size he))) (fun q hq => Nat.ne_of_lt (Heap.lt_size (N q hq).1))
  rcases List.mem_cons.mp hq with rfl | hq
  · exact ⟨ho, Ne.symm hLs, hd0⟩
  · exact ⟨a3 _ _ (hne q hq) (N q hq).1, (N q hq).2⟩
theorem set_next {prog : Program} {A : Around} {e t1 dx : Addr} {odx : Obj} {mA : Str → Option Value} {name : Str} {v : Value} {ns : List Str} {Q : Unit → Shared → Prop}
    (F : Fr h₀ L s.heap m) (N : News h₀ L s.heap ((dx, odx) :: news)) (X : (hd.heap_39 w.params).In h₀) (he : s.heap.get? e = some (excObj t1 (some dx))) (hD : DictNs odx mA) (he0 : h₀.get? e = none) (hLe : L ≠ e) (hde : dx ≠ e) (hne : ∀ q ∈ news, q.1 ≠ e) (hnd : ∀ q ∈ news, q.1 ≠ dx)
    (hna : mN34 w.params name = none) (hB : typeLookup (.type "Exception") name = pure none) (hw : Within mA ns) (hsz : ns.length ≤ sizeLine)
    (hq : ∀ h' tk' odx', Fr h₀ L h' m → News h₀ L h' ((dx, odx') :: news) → h'.get? e = some (excObj t1 (some dx)) → DictNs odx' (fun y => if y = name then some v else mA y) → Q () { s with heap := h', toks := tk' }) :
    wpAny (model prog w) A (setAttr (.ref e) name v) Q E s := by
  obtain ⟨h, g, d, t, os⟩ := s
  have Xh := X.keeps F.keep
  have e34 : e ≠ 34 := fun q => by rw [q, X 34 _ (look34 w.params)] at he0; cases he0
  have hdx := N _ (.head _)
  refine store_attr PySem.F.store_Exception (at34 Xh) (ns33 Xh) mN_setattr hna hB e34 ⟨_, he, rfl, (fun _ q => by cases q), .inr ⟨dx, rfl, hde, hD _ _ hdx.1⟩⟩ (fun h' tk' I' hk hs => ?_) hw hsz
  obtain ⟨o₁, ho₁, hc, hd, hsl, hdx₁⟩ := hs _ he
  have hk' : ∀ b o, b ≠ e → b ≠ dx → h.get? b = some o → h'.get? b = some o := fun b o h1 h2 eb => hk b o h1 (fun o₀ dx' h₀' hdx'' => by
    obtain rfl := Option.some.inj (he.symm.trans h₀')
    obtain rfl := Option.some.inj hdx''
    exact h2) eb
  have hdx' := hdx₁ dx rfl
  have ho : o₁ = excObj t1 (some dx) := by
    obtain ⟨c1, d1, dd1, s1⟩ := o₁
    simp only at hc hd hsl hdx'
    subst hc hd hsl hdx'
    rfl
  subst ho
  obtain ⟨o₂, ho₂, _, _, hd₂⟩ := I'
  obtain rfl := Option.some.inj (ho₁.symm.trans ho₂)
  rcases hd₂ with ⟨hno, _⟩ | ⟨dx', hdx'', _, hns⟩
  · cases hno
  obtain rfl := Option.some.inj hdx''
  obtain ⟨odx', hodx, hD'⟩ := ns1_obj hns
  refine hq h' tk' odx' ⟨F.ns.at' fun o eb => hk' L o hLe (Ne.symm hdx.2.1) eb, fun b o eb => hk' b o (fun q => by rw [q, he0] at eb; cases eb) (fun q => by rw [q, hdx.2.2] at eb; cases eb) (F.keep b o eb), F.above⟩ (fun q hq => ?_) ho₁ hD'
  rcases List.mem_cons.mp hq with rfl | hq
  · exact ⟨hodx, hdx.2⟩
  · have := N q (.tail _ hq)
    exact ⟨hk' _ _ (hne q hq) (hnd q hq) this.1, this.2⟩
set_option maxHeartbeats 8000000 in
theorem call_basic (B : Below A₀ base outer h₀) (F : Fr h₀ L s.heap m) (X : (hd.heap_39 w.params).In h₀) (N : News h₀ L s.heap news) (T : Top p loose mean mg mb h₀) (hk : cs.kind = .function) (hd : dp + 10 < recursionLimit) (hu : un + 80 < cLine)
   (c : Str) (tc : Tok) (told : Value)
   (ret : ∀ h' tk' e dx odx t1, Fr h₀ L h' m → News h₀ L h' ((dx, odx) :: news) → h'.get? e = some (excObj t1 (some dx)) → h₀.get? e = none → DictNs odx (mEx c tc told) → dx ≠ e → (∀ q ∈ news, q.1 ≠ e) → (∀ q ∈ news, q.1 ≠ dx) → Q (.ref e) { s with heap := h', toks := tk' }) :
   wpAny (model PySem.Challenge.rw_pc0001_01.row.prog w) (ktrTop dp un gd cn cs L a ccd cl outer) (call (.ref 34) [.str c tc, told]) Q E s := by
  obtain ⟨h, g, d, t, os⟩ := s
  have Xh := X.keeps F.keep
  obtain ⟨o31, ho31, hc31⟩ := fn31 Xh
  refine wpAny_call_exc_init PySem.F.excBase_Exception (at34 Xh) (ns33 Xh) mN_init ho31 hc31 (fun h1 e hm => ?_)
  clear ho31 hc31
  have F1 : Fr h₀ L h1 m := F.keeps hm.keeps
  obtain ⟨t0, he, ht0, htup⟩ := hm.there
  have he0 : h₀.get? e = none := by
    cases q : h₀.get? e with
    | none => rfl
    | some o => have := F.keep _ _ q; rw [hm.new] at this; cases this
  have N1 : News h₀ L h1 ((e, excObj t0 none) :: news) := News.more F1 (N.grown hm.keeps) he (fun _ _ => by intro q; cases q) he0
  have I1 : InstAt h1 e (excObj t0 none) 34 none := ⟨he, rfl, rfl, trivial⟩
  have hnews : ∀ q ∈ news, q.1 ≠ e := fun q hq z => by have := (N q hq).1; rw [z, hm.new] at this; cases this
  clear he htup
  have Xh1 := X.keeps F1.keep
  revert X; k_fill; intro X
  refine wpAny_call ?_
  refine' ks_code_super ?k1 ?k2 ?k3 ?k4 ?k5 ?kA ?kF ?kK ?k6 ?k7 ?k8 ?k9 ?kB ?_ ?c1 ?c2 ?c3 ?c4
  case kA => exact rfl
  case kF => exact rfl
  case kK => exact hk
  case k1 => k_asm
  case k2 => k_asm
  case k3 => k_asm
  case k4 => k_asm
  case k5 => k_asm
  case k6 => k_is
  case k7 => k_is
  case k8 => ktr_room
  case k9 => exact BindsTo.of_defaults rfl (Xh1 23 { cls := Value.type "tuple", data := Data.seq #[Value.str (Str.ofString "") 201] } (by kernel_rfl)) rfl rfl rfl
  case kB => exact locs rfl
  case c1 => decide
  case c2 => exact rfl
  case c3 => exact rfl
  case c4 => exact rfl
  intro g' L' h' FG' F' N' B' X' T' l1
  dsimp only
  refine ks_wpAt_execs_cons ?_
  refine ks_wpAt_Expr_any ?_
  refine ks_wpAt_MethodCall ?_
  have IN : W.InstAt h' e (excObj t0 none) 34 none := ⟨(N' _ (.head _)).1, rfl, rfl, trivial⟩
  refine' ks_node ?a1 ?a2 ?a3 ?a4 ?a5 ?a6 ?a7 ?a8 ?a9 ?a10 ?a11 ?a12 ?a13 ?a14 ?a15 ?a16 ?a17 ?a18 ?a19 ?a20 ?a21 ?a22 ?_
  case a1 => k_asm
  case a2 => k_asm
  case a3 => k_asm
  case a4 => k_asm
  case a5 => k_is
  case a6 => rfl
  case a7 => rfl
  case a8 => exact IN
  case a9 => k_is
  case a10 => rfl
  case a11 => first | rfl | decide +kernel
  case a12 => k_is
  case a13 => k_is
  case a14 => k_is
  case a15 => k_is
  case a16 => decide
  case a17 => rfl
  case a18 => rfl
  case a19 => rfl
  case a20 => rfl
  case a21 => decide +kernel
  case a22 => first | boot_by_name | rfl | kernel_rfl
  intro so' h2 F2 N2 l2
  have e34 : e ≠ 34 := fun q => by rw [q, X 34 _ (look34 w.params)] at he0; cases he0
  refine super_getMethod (X'.keeps F2.keep) (N2 _ (.head _)).1 (N2 _ (.tail _ (.head _))).1 rfl e34 ?_
  dsimp only
  have F3 := F2.push (mwObj e)
  have N3 := N2.push F2 (mwObj e)
  k_with_none
  refine callWith_mw (x := e) ?_
  k_steps
  · exact (N3 _ (.head _)).1
  refine mw_call (P := w.params) (X'.keeps F3.keep) (N3 _ (.head _)).1 (N3 _ (.tail _ (.tail _ (.head _)))).1 fun h4 a1 a2 a3 => ?_
  have e0' : g'.get? e = none := (N' _ (.head _)).2.2
  have Le : L' ≠ e := Ne.symm (N' _ (.head _)).2.1
  have F4 : Fr g' L' h4 _ := LCg.fr_but F3 (I := e) (fun b o hb eb => a3 b o (by simpa using hb) eb) Le e0'
  have N4 : News g' L' h4 news := fun q hq => ⟨a3 _ _ (hnews q hq) (N3 q (.tail _ (.tail _ (.tail _ hq)))).1, (N3 q (.tail _ (.tail _ (.tail _ hq)))).2⟩
  clear F2 N2 l2 F3 N3 N' F' IN
  refine wpAt_of_wpAny ?_
  k_steps
  refine set_first F4 N4 X' a1 e0' Le hnews mN_code lk_code fun h5 tk5 dx odx F5 N5 b1 b2 b3 b4 => ?_
  clear F4 N4 a1 a2 a3
  k_steps
  refine set_next F5 N5 X' b1 b2 e0' Le b3 hnews b4 mN_told lk_told (Within.cons (Str.ofString "code") _ Within.nil) (by size_fits) fun h6 tk6 odx' F6 N6 c1 c2 => ?_
  clear F5 N5
  k_steps
  exact ret _ _ _ _ _ _ (by assumption) (by assumption) c1 he0 c2 b3 hnews b4
end
end Mine
end

/-! part E3 -/
section
open PySem PySem.W PyProof.Rows PyProof.V
open PySem.Spec PySem.Calls
set_option maxRecDepth 100000
set_option linter.unusedVariables false
namespace Mine
abbrev frs (l : List Env) : List Addr := l.filterMap (·.frame)
structure Trc (h base : Heap) (e dx : Addr) (fl : Value) : Prop where
  ex : ∃ oe vs T oT ts, h.get? e = some oe ∧ oe.cls = .ref 34 ∧ oe.dict = some dx ∧ oe.data = .fields vs ∧ vs[1]? = some (.ref T) ∧ base.get? T = none ∧ T ≠ e ∧ h.get? T = some oT ∧ oT.data = .fields ts ∧ ts[3]? = some fl
structure Fly (B : Heap) (l : List Env) (e dx : Addr) (fl : Value) (h : Heap) : Prop where
  stays : B.StaysIn h
  new : B.get? e = none
  frames : h.FunFrames B l
  trc : Trc h B e dx fl
section
variable {M : Model} {A : Around} {E : Value → Shared → Prop} {s : Shared}
theorem core_entry {B : Heap} {env : Env} {outer : List Env} {L e dx : Addr} {oe : Obj} {vs : Array Value} {head : Value} {hadNext : Bool} {Q : Unit → Shared → Prop}
    (hfr : A.frames = some (env :: outer)) (hl : s.heap.FunFrames B (env :: outer)) (hf : env.frame = some L)
    (he : s.heap.get? e = some oe) (hB : B.StaysIn s.heap) (hen : B.get? e = none) (hc : oe.cls = .ref 34) (hdx : oe.dict = some dx) (hd : oe.data = .fields vs) (hsz : 1 < vs.size)
    (h : ∀ h', Fly B (env :: outer) e dx (rawInt L) h' → s.heap.UpToSlots h' → Q () { s with heap := h' }) :
    wpAny M A (do let a ← frameOf env; let pl ← entryPlaceOf L hadNext; let b ← EntryCells.newEntry head a .none (rawInt L) .none pl; setField (.ref e) 1 b) Q E s := by
  have hnotfr : ∀ b o vs, s.heap.get? b = some o → o.data = .fields vs → b ∉ frs (env :: outer) := fun b o vs hb hdb hm => by
    obtain ⟨_, o', ho, hnf⟩ := hl.mem hm
    rw [hb] at ho; cases ho; exact hnf vs hdb
  refine wpAny_bind (wpAny_frameOf_fun hfr hl hf fun h₁ hs₁ => ?_)
  refine wpAny_bind (wpAny_entryPlaceOf fun pl hpl => ?_)
  unfold EntryCells.newEntry newFields
  refine wpAny_bind (wpAny_newObj_type ?_ (hpl.sizeOk5 _ _ _ _ _))
  generalize hob : ({ cls := .type "traceback", dict := none, data := .fields ([head, .ref L, .none, rawInt L, .none] ++ (if pl.isEmpty then List.replicate 6 Value.none else pl)).toArray } : Obj) = ob
  have hobd : ob.data = .fields ([head, .ref L, .none, rawInt L, .none] ++ (if pl.isEmpty then List.replicate 6 Value.none else pl)).toArray := by rw [← hob]
  have he₁ : h₁.get? e = some oe := (hs₁.2.1 e (hnotfr e oe vs he hd)).trans he
  have hB₁ : B.StaysIn h₁ := fun b o hbo => (hs₁.2.1 b fun hm => by rw [(hl.mem hm).1] at hbo; cases hbo).trans (hB b o hbo)
  have he₂ := Heap.get?_push_of_some (h := h₁) ob he₁
  have hT₂ : (h₁.push ob).get? h₁.objs.size = some ob := Heap.get?_push_size h₁ (by rw [← hob]; rfl)
  refine wpAny_setField he₂ hd hsz (h _ ⟨?_, hen, ?_, ⟨?_⟩⟩ ?_)
  all_goals have hTe : h₁.objs.size ≠ e := Nat.ne_of_gt (Heap.lt_size he₁)
  all_goals have hd₃ := Obj.data_mapFields hd (·.setIfInBounds 1 (Value.ref h₁.objs.size))
  all_goals have he₃ := Heap.get?_update_self (Obj.mapFields (·.setIfInBounds 1 (Value.ref h₁.objs.size))) he₂ (Obj.isFreed_of_fields hd₃)
  all_goals have keep : ∀ b o, b ≠ e → h₁.get? b = some o → ((h₁.push ob).update e (Obj.mapFields (·.setIfInBounds 1 (Value.ref h₁.objs.size)))).get? b = some o := fun b o hbe hb => (Heap.get?_update_other _ _ (Ne.symm hbe)).trans (Heap.get?_push_of_some _ hb)
  all_goals have notE : ∀ b o, s.heap.get? b = some o → (∀ vs, o.data ≠ .fields vs) → b ≠ e := fun b o hb hnf q => hnf vs ((Option.some.inj (he.symm.trans (q ▸ hb))) ▸ hd)
  · exact fun b o hbo => keep b o (fun q => by rw [q, hen] at hbo; cases hbo) (hB₁ b o hbo)
  · exact hl.of_keeps fun b o hb hnf => by
      obtain ⟨sl, hs⟩ := hs₁.2.2 b o hb
      exact ⟨_, keep b _ (notE b o hb hnf) hs, rfl⟩
  · refine ⟨_, _, h₁.objs.size, ob, _, he₃, ?_, ?_, hd₃, by simp [hsz], hB₁.fresh, hTe, ?_, hobd, by first | (simp; done) | (rcases hpl with rfl | ⟨_, _, _, _, _, _, _, rfl⟩ <;> simp)⟩
    · rw [Obj.cls_mapFields]; exact hc
    · obtain ⟨c1, d1, dd1, s1⟩ := oe
      cases hd
      exact hdx
    · rw [Heap.get?_update_other _ _ (Ne.symm hTe)]; exact hT₂
  · intro b o hb hnf
    obtain ⟨sl, hs⟩ := hs₁.2.2 b o hb
    exact ⟨sl, keep b _ (notE b o hb hnf) hs⟩
theorem note_first {B : Heap} {env : Env} {outer : List Env} {L e dx : Addr} {oe : Obj} {vs : Array Value} {Q : Unit → Shared → Prop}
    (hfr : A.frames = some (env :: outer)) (hl : s.heap.FunFrames B (env :: outer)) (hf : env.frame = some L)
    (he : s.heap.get? e = some oe) (hB : B.StaysIn s.heap) (hen : B.get? e = none) (hc : oe.cls = .ref 34) (hdx : oe.dict = some dx) (hd : oe.data = .fields vs) (h1 : vs[1]? = some .none)
    (h : ∀ h', Fly B (env :: outer) e dx (rawInt L) h' → s.heap.UpToSlots h' → Q () { s with heap := h' }) : wpAny M A (noteFrame (.ref e) env) Q E s := by
  unfold noteFrame
  simp only [hf]
  refine wpAny_bind (wpAny_field he hd h1 ?_)
  rw [if_neg (by decide)]
  exact core_entry hfr hl hf he hB hen hc hdx hd (Array.getElem?_eq_some_iff.mp h1).1 h
theorem note_next {B : Heap} {env : Env} {outer : List Env} {L e dx : Addr} {Q : Unit → Shared → Prop}
    (hfr : A.frames = some (env :: outer)) (hf : env.frame = some L) (x : Fly B (env :: outer) e dx .none s.heap)
    (h : ∀ h', Fly B (env :: outer) e dx (rawInt L) h' → s.heap.UpToSlots h' → Q () { s with heap := h' }) : wpAny M A (noteFrame (.ref e) env) Q E s := by
  obtain ⟨hB, hen, hl, ⟨oe, vs, T, oT, ts, he, hc, hdx, hd, h1, hnT, hTe, hT, hdT, h3⟩⟩ := x
  unfold noteFrame
  simp only [hf]
  refine wpAny_bind (wpAny_field he hd h1 ?_)
  rw [if_pos (show (Value.ref T != Value.none) = true from by simp)]
  refine wpAny_bind (wpAny_field hT hdT h3 ?_)
  rw [if_neg (show ¬ ((Value.none == rawInt L) = true) from by simp [rawInt])]
  refine wpAny_bind (wpAny_setField hT hdT (Array.getElem?_eq_some_iff.mp h3).1 ?_)
  have other : ∀ b, b ≠ T → (s.heap.update T (Obj.mapFields (·.setIfInBounds 3 Value.none))).get? b = s.heap.get? b := fun b hb => Heap.get?_update_other _ _ (Ne.symm hb)
  have notT : ∀ b o, s.heap.get? b = some o → (∀ vs, o.data ≠ .fields vs) → b ≠ T := fun b o hb hnf q => hnf ts ((Option.some.inj (hT.symm.trans (q ▸ hb))) ▸ hdT)
  refine core_entry hfr (hl.of_keeps fun b o hb hnf => ⟨o, (other b (notT b o hb hnf)).trans hb, rfl⟩) hf ((other e (Ne.symm hTe)).trans he)
    (fun b o hbo => (other b fun q => by rw [q, hnT] at hbo; cases hbo).trans (hB b o hbo)) hen hc hdx hd (Array.getElem?_eq_some_iff.mp h1).1 fun h' y u => h h' y fun b o hb hnf => u b o ((other b (notT b o hb hnf)).trans hb) hnf
theorem note_again {B : Heap} {l : List Env} {env : Env} {L e dx : Addr} {Q : Unit → Shared → Prop} (hf : env.frame = some L) (x : Fly B l e dx (rawInt L) s.heap) (h : Q () s) : wpAny M A (noteFrame (.ref e) env) Q E s := by
  obtain ⟨hB, hen, hl, ⟨oe, vs, T, oT, ts, he, hc, hdx, hd, h1, hnT, hTe, hT, hdT, h3⟩⟩ := x
  unfold noteFrame
  simp only [hf]
  refine wpAny_bind (wpAny_field he hd h1 ?_)
  rw [if_pos (show (Value.ref T != Value.none) = true from by simp)]
  refine wpAny_bind (wpAny_field hT hdT h3 ?_)
  rw [if_pos (show (rawInt L == rawInt L) = true from by simp)]
  exact wpAny_pure h
theorem flight_off {B : Heap} {l : List Env} {e dx : Addr} {fl : Value} {Q : Unit → Shared → Prop} (x : Fly B l e dx fl s.heap)
    (h : ∀ h', Fly B l e dx .none h' → (∀ b o, s.heap.get? b = some o → (∀ vs, o.data ≠ .fields vs) → h'.get? b = some o) → Q () { s with heap := h' }) : wpAny M A (setFlight (.ref e) none) Q E s := by
  obtain ⟨hB, hen, hl, ⟨oe, vs, T, oT, ts, he, hc, hdx, hd, h1, hnT, hTe, hT, hdT, h3⟩⟩ := x
  have hsz3 : 3 < ts.size := (Array.getElem?_eq_some_iff.mp h3).1
  have other : ∀ b, b ≠ T → (s.heap.update T (Obj.mapFields (·.setIfInBounds 3 ((none : Option Addr).elim Value.none fun f => rawInt f)))).get? b = s.heap.get? b :=
    fun b hb => Heap.get?_update_other _ _ (Ne.symm hb)
  have notT : ∀ b o, s.heap.get? b = some o → (∀ vs, o.data ≠ .fields vs) → b ≠ T := fun b o hb hnf q => hnf ts ((Option.some.inj (hT.symm.trans (q ▸ hb))) ▸ hdT)
  unfold setFlight
  refine wpAny_bind (wpAny_field he hd h1 ?_)
  rw [if_pos (show (Value.ref T != Value.none) = true from by simp)]
  refine wpAny_setField hT hdT hsz3 (h _ ⟨fun b o hbo => (other b fun q => by rw [q, hnT] at hbo; cases hbo).trans (hB b o hbo), hen,
    hl.of_keeps fun b o hb hnf => ⟨o, (other b (notT b o hb hnf)).trans hb, rfl⟩, ⟨?_⟩⟩ fun b o hb hnf => (other b (notT b o hb hnf)).trans hb)
  exact ⟨oe, vs, T, _, _, (other e (Ne.symm hTe)).trans he, hc, hdx, hd, h1, hnT, hTe, Heap.get?_update_self _ hT (Obj.isFreed_of_fields (Obj.data_mapFields hdT _)), Obj.data_mapFields hdT _, by simp [hsz3]⟩
theorem leave_first {B : Heap} {env : Env} {outer : List Env} {L e dx : Addr} {oe : Obj} {vs : Array Value} {Q : Unit → Shared → Prop}
    (hfr : A.frames = some (env :: outer)) (hl : s.heap.FunFrames B (env :: outer)) (hf : env.frame = some L)
    (he : s.heap.get? e = some oe) (hB : B.StaysIn s.heap) (hen : B.get? e = none) (hc : oe.cls = .ref 34) (hdx : oe.dict = some dx) (hd : oe.data = .fields vs) (h1 : vs[1]? = some .none)
    (h : ∀ h', Fly B outer e dx .none h' → s.heap.UpToSlots h' → Q () { s with heap := h' }) : wpAny M A (leaving env (.ref e)) Q E s := by
  unfold leaving
  refine wpAny_bind (note_first hfr hl hf he hB hen hc hdx hd h1 fun h₁ x u => ?_)
  refine flight_off x fun h₂ y k => h h₂ ⟨y.stays, y.new, y.frames.2.2, y.trc⟩ (u.trans fun b o e hn => ⟨o.slots, k b o e hn⟩)
theorem leave_next {B : Heap} {env : Env} {outer : List Env} {L e dx : Addr} {Q : Unit → Shared → Prop}
    (hfr : A.frames = some (env :: outer)) (hf : env.frame = some L) (x : Fly B (env :: outer) e dx .none s.heap)
    (h : ∀ h', Fly B outer e dx .none h' → s.heap.UpToSlots h' → Q () { s with heap := h' }) : wpAny M A (leaving env (.ref e)) Q E s := by
  unfold leaving
  refine wpAny_bind (note_next hfr hf x fun h₁ x u => ?_)
  refine flight_off x fun h₂ y k => h h₂ ⟨y.stays, y.new, y.frames.2.2, y.trc⟩ (u.trans fun b o e hn => ⟨o.slots, k b o e hn⟩)
end
structure RaisedD (base G : Heap) (l : List Env) (e dx : Addr) (news : List (Addr × Obj)) (h : Heap) : Prop where
  ex : ∃ B, base.StaysIn B ∧ (∀ b o, G.get? b = some o → b ∉ frs l → B.get? b = some o) ∧ (∀ q ∈ news, B.get? q.1 = some q.2 ∧ G.get? q.1 = none ∧ base.get? q.1 = none) ∧ Fly B l e dx .none h
theorem RaisedD.sub {base G : Heap} {l : List Env} {e dx : Addr} {news news' : List (Addr × Obj)} {h : Heap} (x : RaisedD base G l e dx news h) (k : ∀ q ∈ news', q ∈ news) : RaisedD base G l e dx news' h :=
  let ⟨B, a, b, c, d⟩ := x.ex; ⟨B, a, b, fun q hq => c q (k q hq), d⟩
theorem frs_mem {name : Str} {scope : Scope} {L a b : Addr} {cd : Value} {cl : List (Str × Addr)} {outer : List Env} (hm : b ∈ frs (envX name scope L a cd cl :: outer)) : b = L ∨ b ∈ frs outer := by
  obtain ⟨env, he, hf⟩ := List.mem_filterMap.mp hm
  rcases List.mem_cons.mp he with rfl | he
  · exact .inl (Option.some.inj hf).symm
  · exact .inr (List.mem_filterMap.mpr ⟨env, he, hf⟩)
section
variable {M : Model} {A : Around} {E : Value → Shared → Prop} {s' : Shared} {base g g₂ h : Heap} {outer : List Env} {L a e dx : Addr} {m : Str → Option Value} {name : Str} {scope : Scope} {cd : Value} {cl : List (Str × Addr)} {Q : Unit → Shared → Prop} {news : List (Addr × Obj)} {t1 : Addr}
theorem leave_raiseD (K : Below A base outer g) (F : Fr g L s'.heap m) (N : News g L s'.heap news) (he : s'.heap.get? e = some (excObj t1 (some dx))) (e0 : g.get? e = none) (hne : ∀ q ∈ news, q.1 ≠ e) (hk : scope.kind = .function)
    (hQ : ∀ h', RaisedD base g outer e dx news h' → g.UpToSlots h' → Q () { s' with heap := h' }) :
    wpAny M (A.deeper (envX name scope L a cd cl)) (leaving (envX name scope L a cd cl) (.ref e)) Q E s' := by
  have K' := pushX (env := envX name scope L a cd cl) K F rfl hk
  have hin : ∀ env ∈ (envX name scope L a cd cl :: outer), ∀ b, env.frame = some b → b ∈ frs (envX name scope L a cd cl :: outer) ++ [e] := fun env he b hb => List.mem_append_left _ (List.mem_filterMap.mpr ⟨env, he, hb⟩)
  have bnew : ∀ b, g.get? b = none → base.get? b = none := fun b hb => fresh_of_stays K.stays hb
  have st : base.StaysIn (hideAll s'.heap (frs (envX name scope L a cd cl :: outer) ++ [e])) := fun b o q => hideAll_get _ (K'.stays b o q) fun hm => by
    rcases List.mem_append.mp hm with hm | hm
    · rw [(K'.frames.mem hm).1] at q; cases q
    · rw [List.mem_singleton.mp hm, bnew e e0] at q; cases q
  have sg : ∀ b o, g.get? b = some o → b ∉ frs outer → (hideAll s'.heap (frs (envX name scope L a cd cl :: outer) ++ [e])).get? b = some o := fun b o q nm => hideAll_get _ (F.keep b o q) fun hm => by
    rcases List.mem_append.mp hm with hm | hm
    · rcases frs_mem hm with z | z
      · rw [z, kts_self F] at q; cases q
      · exact nm z
    · rw [List.mem_singleton.mp hm, e0] at q; cases q
  have hl : ∀ q ∈ news, (hideAll s'.heap (frs (envX name scope L a cd cl :: outer) ++ [e])).get? q.1 = some q.2 ∧ g.get? q.1 = none ∧ base.get? q.1 = none := fun q hq => by
    refine ⟨hideAll_get _ (N q hq).1 fun hm => ?_, (N q hq).2.2, bnew _ (N q hq).2.2⟩
    rcases List.mem_append.mp hm with hm | hm
    · rcases frs_mem hm with z | z
      · exact (N q hq).2.1 z
      · obtain ⟨_, o, ho, _⟩ := K.frames.mem z
        rw [(N q hq).2.2] at ho; cases ho
    · exact hne q hq (List.mem_singleton.mp hm)
  refine leave_first (B := hideAll s'.heap (frs (envX name scope L a cd cl :: outer) ++ [e])) K'.stack (funFrames_hide K'.frames hin) rfl he (fun b o q => of_hideAll _ q) (hideAll_none _ (List.mem_append_right _ (.head _))) rfl rfl rfl rfl fun h' x u => ?_
  exact hQ h' ⟨_, st, sg, hl, x⟩ ((Heap.UpToSlots.of_keeps F.keep).trans u)
theorem leave_onD (K : Below A base outer g) (F : Fr g L g₂ m) (R : RaisedD base g₂ (envX name scope L a cd cl :: outer) e dx news s'.heap) (hsm : g₂.UpToSlots s'.heap)
    (hQ : ∀ h', RaisedD base g outer e dx news h' → g.UpToSlots h' → Q () { s' with heap := h' }) :
    wpAny M (A.deeper (envX name scope L a cd cl)) (leaving (envX name scope L a cd cl) (.ref e)) Q E s' := by
  obtain ⟨B, hB, hBG, hl, hfl⟩ := R.ex
  refine leave_next (Around.frames_deeper K.stack) rfl hfl fun h' x u => ?_
  refine hQ h' ⟨B, hB, fun b o q nm => hBG b o (F.keep b o q) (fun hm => ?_), fun q hq => ⟨(hl q hq).1, kts_none F.keep (hl q hq).2.1, (hl q hq).2.2⟩, x⟩ ((Heap.UpToSlots.of_keeps F.keep).trans (hsm.trans u))
  rcases frs_mem hm with z | z
  · rw [z, kts_self F] at q; cases q
  · exact nm z
end
section
variable {prog : Program} {w : World} {M : Model} {A : Around} {E : Value → Shared → Prop} {s : Shared} {env : Env} {P : Params}
def Rz (P : Params) (E : Value → Shared → Prop) (v : Value) (s₁ : Shared) : Prop := ∃ e t dx, v = .ref e ∧ (hd.heap_39 P).In s₁.heap ∧ s₁.heap.get? e = some (excObj t dx) ∧ E (.ref e) s₁
theorem stmt34 {x : Sem Value} {Q : Flow → Shared → Prop} (hh : A.handled = none) (h : wpAny M A x (Rz P E) E s) : wpAny M A (raiseStmt env (some x) none) Q E s := by
  have hcB : (Value.ref 34 :: bmE).contains (.type "BaseException") = true := by decide +kernel
  unfold raiseStmt
  refine wpAny_bind (wpAny_mono h (fun v s₁ h₁ => ?_) fun _ _ z => z)
  obtain ⟨e, t, dx, rfl, X, he, hE⟩ := h₁
  obtain ⟨hp, g, d, tk, os⟩ := s₁
  have hC := at34 X
  have hc : (excObj t dx).cls = .ref 34 := rfl
  repeat (first | (with_reducible refine wpAny_loadPart_at he ?_; rw [hc]) | with_reducible refine wpAny_loadPart_at hC ?_ | (with_reducible refine wpAny_isSubtype_exc hC ?_; rw [hcB]) | wp_step)
  exact wpAny_raiseNew_none hh hE
theorem exec_raise34 {ex : PySem.Expr} {pos : Pos} {Q : Flow → Shared → Prop} {h₀ : Heap} (_X : (hd.heap_39 P).In h₀) (hh : A.handled = none) (h : wpAny (model prog w) A (eval ex env) (Rz P E) E s) : wpAny (model prog w) A (exec (.Raise (some ex) none pos) env) Q E s := by
  rw [arm_exec_Raise]
  refine wpAny_bind (wpAny_standAt (stmt34 (P := P) hh ?_))
  exact wpAny_bind (wpAny_mono h (fun v s₁ h₁ => wpAny_bind (wpAny_standAt (wpAny_pure h₁))) fun _ _ z => z)
end
def RaiseTo (base h₀ : Heap) (L : Addr) (m : Str → Option Value) (l : List Env) (news : List (Addr × Obj)) (code : Str) (E : Value → Shared → Prop) (s : Shared) : Prop :=
  ∀ g₂ e dx odx h' tk', Fr h₀ L g₂ m → RaisedD base g₂ l e dx ((dx, odx) :: news) h' → g₂.UpToSlots h' → (∃ tc told, DictNs odx (mEx code tc told)) → E (.ref e) { s with heap := h', toks := tk' }
end Mine
end

/-! part P5 -/
section
open PySem PySem.W PyProof.Rows PyProof.V
open PySem.Spec PySem.Calls
set_option maxRecDepth 100000
set_option linter.unusedVariables false
namespace Mine
theorem fresh_P5 : True := by
  w_top off
  trivial
section
variable {w : World} {p : Program} {loose : List Str} {mean : ExcName → Option Value} {mg mb : Str → Option Value} {dp un : Nat} {gd : Option (List Code)} {cn : Str} {cs : Scope} {a : Addr} {ccd : Value} {cl : List (Str × Addr)} {outer : List Env} {A₀ : Around} {base h₀ : Heap} {L : Addr} {m : Str → Option Value} {news : List (Addr × Obj)} {s : Shared}
    {Q E : Value → Shared → Prop}
theorem hne_cons {dx e : Addr} {odx : Obj} {news : List (Addr × Obj)} (h1 : dx ≠ e) (h2 : ∀ q ∈ news, q.1 ≠ e) : ∀ q ∈ (dx, odx) :: news, q.1 ≠ e := fun q hq => by
  rcases List.mem_cons.mp hq with rfl | hq
  · exact h1
  · exact h2 q hq
set_option maxHeartbeats 8000000 in
theorem line_number_raise (B : Below A₀ base outer h₀) (F : Fr h₀ L s.heap m) (X : (hd.heap_39 w.params).In h₀) (N : News h₀ L s.heap news) (T : Top p loose mean mg mb h₀) (hk : cs.kind = .function) (hd : dp + 20 < recursionLimit) (hu : un + 160 < cLine)
   (x : Int) (t : Tok) (h1 : 65529 < x)
   (err : RaiseTo base h₀ L m (envX cn cs L a ccd cl :: outer) news "SN" E s) :
   wpAny (model PySem.Challenge.rw_pc0001_01.row.prog w) (ktrTop dp un gd cn cs L a ccd cl outer) (call (.ref 65) [.int x t]) Q E s := by
  revert X; k_fill; intro X
  refine wpAny_call ?_
  k_dflt ktr_enter
  k_with_none
  repeat' (first
    | (k_unfold; (try dsimp only))
    | (k_end; wrow_close)
    | ((with_reducible show wpAny _ _ (leaving _ _) _ _ _); first | (with_reducible ((k_here; k_dflt (first | (refine' leave_raiseD (by k_asm) (by k_asm) (by k_asm) (by assumption) (by assumption) (by exact hne_cons (by assumption) (by assumption)) (by rfl) ?_; intro _ _ _) | (refine' (fun K R F u z1 => leave_onD K F R u z1) (by k_asm) (by assumption) (by assumption) (by assumption) ?_; intro _ _ _))))) | ((k_here; k_dflt (first | (refine' leave_raiseD (by k_asm) (by k_asm) (by k_asm) (by assumption) (by assumption) (by exact hne_cons (by assumption) (by assumption)) (by rfl) ?_; intro _ _ _) | (refine' (fun K R F u z1 => leave_onD K F R u z1) (by k_asm) (by assumption) (by assumption) (by assumption) ?_; intro _ _ _)))))
    | ((with_reducible show wpAny _ _ (call (Value.ref _) _) _ _ _); first | (with_reducible ((k_here; k_dflt (first | (refine' call_basic (by k_asm) (by k_asm) (by k_asm) (by k_asm) (by k_asm) (by rfl) (by first | exact room1 (by with_reducible assumption) (by decide) | ktr_room) (by first | exact units1 (by with_reducible assumption) (by decide) | ktr_units) _ _ _ ?_; intro _ _ _ _ _ _ F' _ he' _ _ _ _ _; refine' ⟨_, _, _, rfl, Frag.In.keeps (by k_asm) (Fr.keep F'), he', ?_⟩; (try dsimp only)))))) | ((k_here; k_dflt (first | (refine' call_basic (by k_asm) (by k_asm) (by k_asm) (by k_asm) (by k_asm) (by rfl) (by first | exact room1 (by with_reducible assumption) (by decide) | ktr_room) (by first | exact units1 (by with_reducible assumption) (by decide) | ktr_units) _ _ _ ?_; intro _ _ _ _ _ _ F' _ he' _ _ _ _ _; refine' ⟨_, _, _, rfl, Frag.In.keeps (by k_asm) (Fr.keep F'), he', ?_⟩; (try dsimp only))))))
    | ((with_reducible show wpAny _ _ (exec (Stmt.Raise (some _) none _) _) _ _ _); first | (with_reducible ((k_here; k_dflt (refine' exec_raise34 (by k_asm) (by rfl) ?_)))) | ((k_here; k_dflt (refine' exec_raise34 (by k_asm) (by rfl) ?_))))
    | ((with_reducible show wpAny _ _ (exec _ _) _ _ _); k_here; k_fold; walk1)
    | walk1
    | (dsimp only; walk1)
    | (leave1; walk_say "STEP leave1"; try dsimp only)
    | fail "no step")
  exact err _ _ _ _ _ _ (by assumption) (by assumption) (by assumption) ⟨_, _, by assumption⟩
set_option maxHeartbeats 8000000 in
theorem parted_row_raise (B : Below A₀ base outer h₀) (F : Fr h₀ L s.heap m) (X : (hd.heap_39 w.params).In h₀) (N : News h₀ L s.heap news) (T : Top p loose mean mg mb h₀) (hk : cs.kind = .function) (hd : dp + 30 < recursionLimit) (hu : un + 240 < cLine)
   (x : Str) (t : Tok) (hx : x.length ≤ 1000) (hf : (pFig x).cps.all isFig = true) (hE : pE x ≠ pB x) (h1 : 65529 < pNum x)
   (err : RaiseTo base h₀ L m (envX cn cs L a ccd cl :: outer) news "SN" E s) :
   wpAny (model PySem.Challenge.rw_pc0001_01.row.prog w) (ktrTop dp un gd cn cs L a ccd cl outer) (call (.ref 72) [.str x t]) Q E s := by
  revert X; k_fill; intro X
  refine wpAny_call ?_
  k_dflt ktr_enter
  k_with_none
  repeat' (first
    | (k_unfold; (try dsimp only))
    | (k_end; wrow_close)
    | (first | (with_reducible ((k_here; (with_reducible show wpAny _ _ (eval (Expr.Call (Expr.Name _ _) _ [] _) _) _ _ _); k_dflt (refine Call_ ?_)))) | ((k_here; (with_reducible show wpAny _ _ (eval (Expr.Call (Expr.Name _ _) _ [] _) _) _ _ _); k_dflt (refine Call_ ?_))))
    | ((with_reducible show wpAny _ _ (call (Value.ref _) _) _ _ _); first | (with_reducible ((k_here; k_dflt (first | (refine' blanks_end_spec (by k_asm) (by k_asm) (by k_asm) (by k_asm) (by k_asm) (by rfl) (by first | exact room1 (by with_reducible assumption) (by decide) | ktr_room) (by first | exact units1 (by with_reducible assumption) (by decide) | ktr_units) _ _ _ _ (by assumption) (by omega) (by omega) ?_; intro _ _ _ _ _; (try k_fold)) | (refine' figures_end_spec (by k_asm) (by k_asm) (by k_asm) (by k_asm) (by k_asm) (by rfl) (by first | exact room1 (by with_reducible assumption) (by decide) | ktr_room) (by first | exact units1 (by with_reducible assumption) (by decide) | ktr_units) _ _ _ _ (by assumption) (by exact pB_lo _) (by exact pB_hi _) ?_; intro _ _ _ _ _; (try k_fold)) | (refine' number_told_spec (by k_asm) (by k_asm) (by k_asm) (by k_asm) (by k_asm) (by rfl) (by first | exact room1 (by with_reducible assumption) (by decide) | ktr_room) (by first | exact units1 (by with_reducible assumption) (by decide) | ktr_units) _ _ (by omega) (by assumption) ?_; intro _ _ _ _ _; (try k_fold)) | (refine' line_number_raise (by k_asm) (by k_asm) (by k_asm) (by k_asm) (by k_asm) (by rfl) (by first | exact room1 (by with_reducible assumption) (by decide) | ktr_room) (by first | exact units1 (by with_reducible assumption) (by decide) | ktr_units) _ _ (by assumption) ?_; intro _ _ _ _ _ _ _ _ _ _; (try dsimp only)))))) | ((k_here; k_dflt (first | (refine' blanks_end_spec (by k_asm) (by k_asm) (by k_asm) (by k_asm) (by k_asm) (by rfl) (by first | exact room1 (by with_reducible assumption) (by decide) | ktr_room) (by first | exact units1 (by with_reducible assumption) (by decide) | ktr_units) _ _ _ _ (by assumption) (by omega) (by omega) ?_; intro _ _ _ _ _; (try k_fold)) | (refine' figures_end_spec (by k_asm) (by k_asm) (by k_asm) (by k_asm) (by k_asm) (by rfl) (by first | exact room1 (by with_reducible assumption) (by decide) | ktr_room) (by first | exact units1 (by with_reducible assumption) (by decide) | ktr_units) _ _ _ _ (by assumption) (by exact pB_lo _) (by exact pB_hi _) ?_; intro _ _ _ _ _; (try k_fold)) | (refine' number_told_spec (by k_asm) (by k_asm) (by k_asm) (by k_asm) (by k_asm) (by rfl) (by first | exact room1 (by with_reducible assumption) (by decide) | ktr_room) (by first | exact units1 (by with_reducible assumption) (by decide) | ktr_units) _ _ (by omega) (by assumption) ?_; intro _ _ _ _ _; (try k_fold)) | (refine' line_number_raise (by k_asm) (by k_asm) (by k_asm) (by k_asm) (by k_asm) (by rfl) (by first | exact room1 (by with_reducible assumption) (by decide) | ktr_room) (by first | exact units1 (by with_reducible assumption) (by decide) | ktr_units) _ _ (by assumption) ?_; intro _ _ _ _ _ _ _ _ _ _; (try dsimp only))))))
    | ((with_reducible show wpAny _ _ (leaving _ _) _ _ _); first | (with_reducible ((k_here; k_dflt (first | (refine' leave_raiseD (by k_asm) (by k_asm) (by k_asm) (by assumption) (by assumption) (by exact hne_cons (by assumption) (by assumption)) (by rfl) ?_; intro _ _ _) | (refine' (fun K R F u z1 => leave_onD K F R u z1) (by k_asm) (by assumption) (by assumption) (by assumption) ?_; intro _ _ _))))) | ((k_here; k_dflt (first | (refine' leave_raiseD (by k_asm) (by k_asm) (by k_asm) (by assumption) (by assumption) (by exact hne_cons (by assumption) (by assumption)) (by rfl) ?_; intro _ _ _) | (refine' (fun K R F u z1 => leave_onD K F R u z1) (by k_asm) (by assumption) (by assumption) (by assumption) ?_; intro _ _ _)))))
    | ((with_reducible show wpAny _ _ (call (Value.ref _) _) _ _ _); first | (with_reducible ((k_here; k_dflt (first | (refine' call_basic (by k_asm) (by k_asm) (by k_asm) (by k_asm) (by k_asm) (by rfl) (by first | exact room1 (by with_reducible assumption) (by decide) | ktr_room) (by first | exact units1 (by with_reducible assumption) (by decide) | ktr_units) _ _ _ ?_; intro _ _ _ _ _ _ F' _ he' _ _ _ _ _; refine' ⟨_, _, _, rfl, Frag.In.keeps (by k_asm) (Fr.keep F'), he', ?_⟩; (try dsimp only)))))) | ((k_here; k_dflt (first | (refine' call_basic (by k_asm) (by k_asm) (by k_asm) (by k_asm) (by k_asm) (by rfl) (by first | exact room1 (by with_reducible assumption) (by decide) | ktr_room) (by first | exact units1 (by with_reducible assumption) (by decide) | ktr_units) _ _ _ ?_; intro _ _ _ _ _ _ F' _ he' _ _ _ _ _; refine' ⟨_, _, _, rfl, Frag.In.keeps (by k_asm) (Fr.keep F'), he', ?_⟩; (try dsimp only))))))
    | ((with_reducible show wpAny _ _ (exec (Stmt.Raise (some _) none _) _) _ _ _); first | (with_reducible ((k_here; k_dflt (refine' exec_raise34 (by k_asm) (by rfl) ?_)))) | ((k_here; k_dflt (refine' exec_raise34 (by k_asm) (by rfl) ?_))))
    | ((with_reducible show wpAny _ _ (exec _ _) _ _ _); k_here; k_fold; walk1)
    | walk1
    | (dsimp only; walk1)
    | (leave1; walk_say "STEP leave1"; try dsimp only)
    | fail "no step")
  · exact absurd (by assumption) hE
  all_goals exact err _ _ _ _ _ _ (by assumption) (by assumption) (by assumption) (by assumption)
end
end Mine
end

/-! part P6 -/
section
open PySem PySem.W PyProof.Rows PyProof.V
open PySem.Spec PySem.Calls
set_option maxRecDepth 100000
set_option linter.unusedVariables false
namespace Mine
theorem fresh_P6 : True := by
  w_top off
  trivial
theorem upd_tail {d D : Addr} {o x : Obj} {news : List (Addr × Obj)} {u : Obj → List (Addr × Obj)} (l : ∀ p ∈ news, p.1 < D) (hm : (d, o) ∈ news) (U : UpdF d o news u) : UpdF d o ((D, x) :: news) (fun o' => (D, x) :: u o') :=
  .tail (Ne.symm (Nat.ne_of_lt (l _ hm))) U
theorem upd_tailne {d D : Addr} {o x : Obj} {news : List (Addr × Obj)} {u : Obj → List (Addr × Obj)} (l : ∀ p ∈ news, p.1 ≠ D) (hm : (d, o) ∈ news) (U : UpdF d o news u) : UpdF d o ((D, x) :: news) (fun o' => (D, x) :: u o') :=
  .tail (Ne.symm (l _ hm)) U
theorem news_tl {g h : Heap} {L : Addr} {p : Addr × Obj} {news : List (Addr × Obj)} (N : News g L h (p :: news)) : News g L h news := fun q hq => N q (.tail _ hq)
theorem td_getpop {prog : Program} {w : World} {A : Around} {E : Value → Shared → Prop} {s : Shared} {h₀ : Heap} {L d : Addr} {news : List (Addr × Obj)} {o : Obj} {c : Bk} {pl : Sem Bool} {Q : Value × List Value → Shared → Prop} (N : News h₀ L s.heap news) (hm : (d, o) ∈ news) (lo : (d == sysModules) = false) (T : TDict prog w o c)
    (h : Q (.builtin "dict.pop", [.ref d]) s) : wpAny (model prog w) A (getMethod (.ref d) "pop" pl) Q E s :=
  getMethod_tab PySem.F.slot_dict_pop PySem.F.type_dict_pop (td_tab N hm lo T) h
theorem sub_two {p q : Addr × Obj} {news : List (Addr × Obj)} : ∀ r ∈ p :: news, r ∈ p :: q :: news := fun r hr => by
  rcases List.mem_cons.mp hr with rfl | hr
  · exact .head _
  · exact .tail _ (.tail _ hr)
theorem size_le {x : Str} (h : x.length ≤ 1000) : x.length ≤ sizeLine := by rw [PySem.sizeLine_eq]; omega
section
variable {w : World} {p : Program} {loose : List Str} {mean : ExcName → Option Value} {mg mb : Str → Option Value} {dp un : Nat} {gd : Option (List Code)} {cn : Str} {cs : Scope} {a : Addr} {ccd : Value} {cl : List (Str × Addr)} {outer : List Env} {A₀ : Around} {base h₀ : Heap} {L : Addr} {m : Str → Option Value} {news : List (Addr × Obj)} {s : Shared}
    {Q E : Value → Shared → Prop}
local macro_rules | `(tactic| k_mem) => `(tactic| first | (with_reducible assumption) | exact List.mem_cons_self | (refine List.mem_cons_of_mem _ ?_; k_mem))
set_option maxHeartbeats 8000000 in
theorem enter_row_spec (B : Below A₀ base outer h₀) (F : Fr h₀ L s.heap m) (X : (hd.heap_39 w.params).In h₀) (N : News h₀ L s.heap news) (T : Top p loose mean mg mb h₀) (hk : cs.kind = .function) (hd : dp + 40 < recursionLimit) (hu : un + 400 < cLine)
   (d : Addr) (o : Obj) (c : Bk) (u : Obj → List (Addr × Obj)) (hm : (d, o) ∈ news) (U : UpdF d o news u) (lo : (d == sysModules) = false) (TD : TDict PR w o c) (hc : c.length < 64)
   (x : Str) (t : Tok) (hx : x.length ≤ 1000) (hf : (pFig x).cps.all isFig = true) (h0 : 0 ≤ pNum x) (h1 : pNum x ≤ 65529) (hr : (pRest x).length ≤ 1000)
   (ret0 : pE x = pB x → ∀ h' tk' t', Fr h₀ L h' m → News h₀ L h' news → Q (.str (Txt.slice x (some (pB x)) none) t') { s with heap := h', toks := tk' })
   (retS : pE x ≠ pB x → (Txt.stripChars (pRest x) (Str.ofString " ") != Str.ofString "") = true → ∀ o' h' tk', Fr h₀ L h' m → News h₀ L h' (u o') → TDict PR w o' (sPut c (pNum x) (Txt.rstripChars (pRest x) (Str.ofString " "))) → Q .none { s with heap := h', toks := tk' })
   (retP : pE x ≠ pB x → (Txt.stripChars (pRest x) (Str.ofString " ") != Str.ofString "") = false → sHas c (pNum x) = true → ∀ o' h' tk', Fr h₀ L h' m → News h₀ L h' (u o') → TDict PR w o' (sDel c (pNum x)) → Q .none { s with heap := h', toks := tk' })
   (err : pE x ≠ pB x → (Txt.stripChars (pRest x) (Str.ofString " ") != Str.ofString "") = false → sHas c (pNum x) = false → RaiseTo base h₀ L m (envX cn cs L a ccd cl :: outer) news "UL" E s) :
   wpAny (model PySem.Challenge.rw_pc0001_01.row.prog w) (ktrTop dp un gd cn cs L a ccd cl outer) (call (.ref 79) [.ref d, .str x t]) Q E s := by
  revert X; k_fill; intro X
  refine wpAny_call ?_
  k_dflt ktr_enter
  k_with_none
  repeat' (first
    | (k_unfold; (try dsimp only))
    | (k_end; wrow_close)
    | (first | (with_reducible ((k_here; (with_reducible show wpAny _ _ (eval (Expr.Call (Expr.Name _ _) _ [] _) _) _ _ _); k_dflt (refine Call_ ?_)))) | ((k_here; (with_reducible show wpAny _ _ (eval (Expr.Call (Expr.Name _ _) _ [] _) _) _ _ _); k_dflt (refine Call_ ?_))))
    | ((with_reducible show wpAny _ _ (call (Value.ref _) _) _ _ _); first | (with_reducible ((k_here; k_dflt (first | (refine' (fun z1 z2 B F X N T k d u x f i j r1 r0 => parted_row_spec B F X N T k d u z1 z2 x f i j r0 r1) _ _ (by k_asm) (by k_asm) (by k_asm) (by k_asm) (by k_asm) (by rfl) (by first | exact room1 (by with_reducible assumption) (by decide) | ktr_room) (by first | exact units1 (by with_reducible assumption) (by decide) | ktr_units) (by assumption) (by assumption) (by assumption) (by assumption) ?_ ?_; (focus (intro _ _ _ _ _ _ F' _ _; (try k_fold))); rotate_left; (focus (intro _ _ _ _ _ _ _ _; (try k_fold))); rotate_left) | (refine' call_basic (by k_asm) (by k_asm) (by k_asm) (by k_asm) (by k_asm) (by rfl) (by first | exact room1 (by with_reducible assumption) (by decide) | ktr_room) (by first | exact units1 (by with_reducible assumption) (by decide) | ktr_units) _ _ _ ?_; intro _ _ _ _ _ _ F' _ he' _ _ _ _ _; refine' ⟨_, _, _, rfl, Frag.In.keeps (by k_asm) (Fr.keep F'), he', ?_⟩; (try dsimp only)))))) | ((k_here; k_dflt (first | (refine' (fun z1 z2 B F X N T k d u x f i j r1 r0 => parted_row_spec B F X N T k d u z1 z2 x f i j r0 r1) _ _ (by k_asm) (by k_asm) (by k_asm) (by k_asm) (by k_asm) (by rfl) (by first | exact room1 (by with_reducible assumption) (by decide) | ktr_room) (by first | exact units1 (by with_reducible assumption) (by decide) | ktr_units) (by assumption) (by assumption) (by assumption) (by assumption) ?_ ?_; (focus (intro _ _ _ _ _ _ F' _ _; (try k_fold))); rotate_left; (focus (intro _ _ _ _ _ _ _ _; (try k_fold))); rotate_left) | (refine' call_basic (by k_asm) (by k_asm) (by k_asm) (by k_asm) (by k_asm) (by rfl) (by first | exact room1 (by with_reducible assumption) (by decide) | ktr_room) (by first | exact units1 (by with_reducible assumption) (by decide) | ktr_units) _ _ _ ?_; intro _ _ _ _ _ _ F' _ he' _ _ _ _ _; refine' ⟨_, _, _, rfl, Frag.In.keeps (by k_asm) (Fr.keep F'), he', ?_⟩; (try dsimp only))))))
    | ((with_reducible show wpAny _ _ (leaving _ _) _ _ _); first | (with_reducible ((k_here; k_dflt (first | (refine' leave_raiseD (by k_asm) (by k_asm) (by k_asm) (by assumption) (by assumption) (by exact hne_cons (by assumption) (by assumption)) (by rfl) ?_; intro _ _ _) | (refine' (fun K R F u z1 => leave_onD K F R u z1) (by k_asm) (by assumption) (by assumption) (by assumption) ?_; intro _ _ _))))) | ((k_here; k_dflt (first | (refine' leave_raiseD (by k_asm) (by k_asm) (by k_asm) (by assumption) (by assumption) (by exact hne_cons (by assumption) (by assumption)) (by rfl) ?_; intro _ _ _) | (refine' (fun K R F u z1 => leave_onD K F R u z1) (by k_asm) (by assumption) (by assumption) (by assumption) ?_; intro _ _ _)))))
    | ((with_reducible show wpAny _ _ (exec (Stmt.Raise (some _) none _) _) _ _ _); first | (with_reducible ((k_here; k_dflt (refine' exec_raise34 (by k_asm) (by rfl) ?_)))) | ((k_here; k_dflt (refine' exec_raise34 (by k_asm) (by rfl) ?_))))
    | ((with_reducible show wpAny _ _ (compareOp CmpOp.In (Value.int _ _) (Value.ref _)) _ _ _); first | (with_reducible ((k_here; k_dflt (refine' td_in (by k_asm) (by k_mem) (by assumption) (by assumption) ?_)))) | ((k_here; k_dflt (refine' td_in (by k_asm) (by k_mem) (by assumption) (by assumption) ?_))))
    | (first | (with_reducible ((k_here; (with_reducible show wpAny _ _ (getMethod (Value.ref _) (Str.ofString "pop") _) _ _ _); k_dflt (refine' td_getpop (by k_asm) (by k_mem) (by assumption) (by assumption) ?_)))) | ((k_here; (with_reducible show wpAny _ _ (getMethod (Value.ref _) (Str.ofString "pop") _) _ _ _); k_dflt (refine' td_getpop (by k_asm) (by k_mem) (by assumption) (by assumption) ?_))))
    | ((with_reducible show wpAny _ _ (call (Value.builtin "dict.pop") _) _ _ _); first | (with_reducible ((k_here; k_dflt (refine' (fun a F N U T k c z1 => td_pop F N U T k c z1 a) (by exact PySem.F.args_dict_pop_2 _ _) (by k_asm) (by k_asm) (by exact upd_tail (by assumption) (by assumption) (by assumption)) (by assumption) (by assumption) (by omega) ?_); intro _ _ _ _ _ _ _ _))) | ((k_here; k_dflt (refine' (fun a F N U T k c z1 => td_pop F N U T k c z1 a) (by exact PySem.F.args_dict_pop_2 _ _) (by k_asm) (by k_asm) (by exact upd_tail (by assumption) (by assumption) (by assumption)) (by assumption) (by assumption) (by omega) ?_); intro _ _ _ _ _ _ _ _)))
    | ((with_reducible show wpAny _ _ (setItem (Value.ref _) (Value.int _ _) _) _ _ _); first | (with_reducible ((k_here; k_dflt (refine' td_set (by k_asm) (by k_asm) (by exact upd_tail (by assumption) (by assumption) (by assumption)) (by assumption) (by omega) ?_); intro _ _ _ _ _))) | ((k_here; k_dflt (refine' td_set (by k_asm) (by k_asm) (by exact upd_tail (by assumption) (by assumption) (by assumption)) (by assumption) (by omega) ?_); intro _ _ _ _ _)))
    | (first | (with_reducible ((k_here; (with_reducible show wpAny _ _ (call (Value.builtin "str.rstrip") [Value.str _ _, Value.str _ _]) _ _ _); refine SCL.rstripChars (hsz := by exact size_le (by assumption)) ?_; intro _ _ _))) | ((k_here; (with_reducible show wpAny _ _ (call (Value.builtin "str.rstrip") [Value.str _ _, Value.str _ _]) _ _ _); refine SCL.rstripChars (hsz := by exact size_le (by assumption)) ?_; intro _ _ _)))
    | (first | (with_reducible ((k_here; (with_reducible show wpAny _ _ (call (Value.builtin "str.strip") [Value.str _ _, Value.str _ _]) _ _ _); refine SCL.stripChars (hsz := by exact size_le (by assumption)) ?_; intro _ _ _))) | ((k_here; (with_reducible show wpAny _ _ (call (Value.builtin "str.strip") [Value.str _ _, Value.str _ _]) _ _ _); refine SCL.stripChars (hsz := by exact size_le (by assumption)) ?_; intro _ _ _)))
    | ((with_reducible show wpAny _ _ (exec _ _) _ _ _); k_here; k_fold; walk1)
    | walk1
    | (dsimp only; walk1)
    | (leave1; walk_say "STEP leave1"; try dsimp only)
    | fail "no step")
  · exact retS (by assumption) (by assumption) _ _ _ (by assumption) (news_tl (by assumption)) (by assumption)
  · exact retP (by assumption) (by assumption) (by assumption) _ _ _ (by assumption) (news_tl (by assumption)) (by assumption)
  · exact err (by assumption) (by assumption) (by assumption) _ _ _ _ _ _ (by assumption) (RaisedD.sub (by assumption) (sub_two)) (by assumption) ⟨_, _, by assumption⟩
  · exact ret0 (by assumption) _ _ _ (by assumption) (news_tl (by assumption))
end
end Mine
end

/-! part P7 -/
section
open PySem PySem.W PyProof.Rows PyProof.V
open PySem.Spec PySem.Calls
set_option maxRecDepth 100000
set_option linter.unusedVariables false
namespace Mine
theorem fresh_P7 : True := by
  w_top off
  trivial
section
variable {w : World} {p : Program} {loose : List Str} {mean : ExcName → Option Value} {mg mb : Str → Option Value} {dp un : Nat} {gd : Option (List Code)} {cn : Str} {cs : Scope} {a : Addr} {ccd : Value} {cl : List (Str × Addr)} {outer : List Env} {A₀ : Around} {base h₀ : Heap} {L : Addr} {m : Str → Option Value} {news : List (Addr × Obj)} {s : Shared}
    {Q E : Value → Shared → Prop}
local macro_rules | `(tactic| k_mem) => `(tactic| first | (with_reducible assumption) | exact List.mem_cons_self | (refine List.mem_cons_of_mem _ ?_; k_mem))
set_option maxHeartbeats 8000000 in
theorem enter_row_raise (B : Below A₀ base outer h₀) (F : Fr h₀ L s.heap m) (X : (hd.heap_39 w.params).In h₀) (N : News h₀ L s.heap news) (T : Top p loose mean mg mb h₀) (hk : cs.kind = .function) (hd : dp + 40 < recursionLimit) (hu : un + 400 < cLine)
   (d : Addr) (x : Str) (t : Tok) (hx : x.length ≤ 1000) (hf : (pFig x).cps.all isFig = true) (hE : pE x ≠ pB x) (h1 : 65529 < pNum x)
   (err : RaiseTo base h₀ L m (envX cn cs L a ccd cl :: outer) news "SN" E s) :
   wpAny (model PySem.Challenge.rw_pc0001_01.row.prog w) (ktrTop dp un gd cn cs L a ccd cl outer) (call (.ref 79) [.ref d, .str x t]) Q E s := by
  revert X; k_fill; intro X
  refine wpAny_call ?_
  k_dflt ktr_enter
  k_with_none
  repeat' (first
    | (k_unfold; (try dsimp only))
    | (k_end; wrow_close)
    | (first | (with_reducible ((k_here; (with_reducible show wpAny _ _ (eval (Expr.Call (Expr.Name _ _) _ [] _) _) _ _ _); k_dflt (refine Call_ ?_)))) | ((k_here; (with_reducible show wpAny _ _ (eval (Expr.Call (Expr.Name _ _) _ [] _) _) _ _ _); k_dflt (refine Call_ ?_))))
    | ((with_reducible show wpAny _ _ (call (Value.ref _) _) _ _ _); first | (with_reducible ((k_here; k_dflt (first | (refine' parted_row_raise (by k_asm) (by k_asm) (by k_asm) (by k_asm) (by k_asm) (by rfl) (by first | exact room1 (by with_reducible assumption) (by decide) | ktr_room) (by first | exact units1 (by with_reducible assumption) (by decide) | ktr_units) _ _ (by assumption) (by assumption) (by assumption) (by assumption) ?_; intro _ _ _ _ _ _ _ _ _ _; (try dsimp only)))))) | ((k_here; k_dflt (first | (refine' parted_row_raise (by k_asm) (by k_asm) (by k_asm) (by k_asm) (by k_asm) (by rfl) (by first | exact room1 (by with_reducible assumption) (by decide) | ktr_room) (by first | exact units1 (by with_reducible assumption) (by decide) | ktr_units) _ _ (by assumption) (by assumption) (by assumption) (by assumption) ?_; intro _ _ _ _ _ _ _ _ _ _; (try dsimp only))))))
    | ((with_reducible show wpAny _ _ (leaving _ _) _ _ _); first | (with_reducible ((k_here; k_dflt ((refine' (fun K R F u z1 => leave_onD K F R u z1) (by k_asm) (by assumption) (by assumption) (by assumption) ?_; intro _ _ _))))) | ((k_here; k_dflt ((refine' (fun K R F u z1 => leave_onD K F R u z1) (by k_asm) (by assumption) (by assumption) (by assumption) ?_; intro _ _ _)))))
    | ((with_reducible show wpAny _ _ (exec _ _) _ _ _); k_here; k_fold; walk1)
    | walk1
    | (dsimp only; walk1)
    | (leave1; walk_say "STEP leave1"; try dsimp only)
    | fail "no step")
  exact err _ _ _ _ _ _ (by assumption) (by assumption) (by assumption) (by assumption)
end
end Mine
end

/-! part P8a -/
section
open PySem PySem.W PyProof.Rows PyProof.V
open PySem.Spec PySem.Calls
set_option maxRecDepth 100000
set_option linter.unusedVariables false
namespace Mine
def sDelAll (c : Bk) (ns : List Int) : Bk := ns.foldl sDel c
theorem sHas_del {c : Bk} {k n : Int} (h : n ≠ k) : sHas (sDel c k) n = sHas c n := by
  unfold sHas sDel
  rw [List.any_filter]
  congr 1
  funext p
  by_cases e : p.1 = k
  · simp [e, Ne.symm h]
  · simp [e]
theorem sHas_delAll {n : Int} : ∀ {ns : List Int} {c : Bk}, n ∉ ns → sHas (sDelAll c ns) n = sHas c n
  | [], _, _ => rfl
  | k :: r, c, h => by
    rw [List.mem_cons, not_or] at h
    show sHas (sDelAll (sDel c k) r) n = _
    rw [sHas_delAll h.2, sHas_del h.1]
theorem sDelAll_len : ∀ (ns : List Int) (c : Bk), (sDelAll c ns).length ≤ c.length
  | [], _ => Nat.le_refl _
  | k :: r, c => Nat.le_trans (sDelAll_len r (sDel c k)) (sDel_len c k)
theorem upd_re {d : Addr} {o o' : Obj} : ∀ {news : List (Addr × Obj)} {u : Obj → List (Addr × Obj)}, UpdF d o news u → UpdF d o' (u o') u
  | _, _, .head h => .head h
  | _, _, .tail h r => .tail h (upd_re r)
theorem upd_app {d : Addr} {o : Obj} {own : List (Addr × Obj)} : ∀ {news : List (Addr × Obj)} {u : Obj → List (Addr × Obj)}, UpdF d o news u → (∀ p ∈ own, p.1 ≠ d) → UpdF d o (news ++ own) (fun o' => u o' ++ own)
  | _, _, .head h, k => .head fun p hp => (List.mem_append.mp hp).elim (h p) (k p)
  | _, _, .tail h r, k => .tail h (upd_app r k)
theorem upd_mem {d : Addr} {o : Obj} : ∀ {news : List (Addr × Obj)} {u : Obj → List (Addr × Obj)}, UpdF d o news u → (d, o) ∈ news
  | _, _, .head h => .head _
  | _, _, .tail h r => .tail _ (upd_mem r)
theorem upd_self {d : Addr} {o : Obj} : ∀ {news : List (Addr × Obj)} {u : Obj → List (Addr × Obj)}, UpdF d o news u → news = u o
  | _, _, .head h => rfl
  | _, _, .tail h r => congrArg _ (upd_self r)
theorem upd_addr {d : Addr} {o o' : Obj} : ∀ {news : List (Addr × Obj)} {u : Obj → List (Addr × Obj)}, UpdF d o news u → (u o').map (·.1) = news.map (·.1)
  | _, _, .head h => rfl
  | _, _, .tail h r => by simp only [List.map_cons, upd_addr r]
def PopEnd (prog : Program) (w : World) (h₀ : Heap) (L : Addr) (m : Str → Option Value) (u : Obj → List (Addr × Obj)) (c : Bk) (s : Shared) (f : Flow) (s₂ : Shared) : Prop :=
  f = .next ∧ ∃ o' h' tk', s₂ = { s with heap := h', toks := tk' } ∧ Fr h₀ L h' m ∧ News h₀ L h' (u o') ∧ TDict prog w o' c
section
variable {prog : Program} {w : World} {A : Around} {E : Value → Shared → Prop} {s : Shared} {env : Env} {h₀ : Heap} {x : Str} {body : List Stmt} {Q : Flow → Shared → Prop}
theorem iter_pops {l d : Addr} {vs : List Value} {ns : List Int} {nn : Nat} {m₀ : Str → Option Value} {news : List (Addr × Obj)} {o₀ : Obj} {c₀ : Bk} {u : Obj → List (Addr × Obj)}
    (hh : A.handled = none) (hl : ∀ o, (l, listOf vs.toArray nn) ∈ u o) (hi : IntsAre vs ns) (F : Fr h₀ env.locals s.heap m₀) (N : News h₀ env.locals s.heap news) (U : UpdF d o₀ news u) (T : TDict prog w o₀ c₀) (hns : ns.Nodup) (hsub : ∀ n ∈ ns, sHas c₀ n = true)
    (turn : ∀ n t o c h tk own, n ∈ ns → sHas c n = true → c.length ≤ c₀.length → TDict prog w o c → UpdF d o (u o ++ own) (fun o' => u o' ++ own) → (d, o) ∈ u o ++ own →
      Fr h₀ env.locals h (fun y => if y = x then some (.int n t) else m₀ y) → News h₀ env.locals h (u o ++ own) →
      wpAny (model prog w) A (execs body env) (PopEnd prog w h₀ env.locals (fun y => if y = x then some (.int n t) else m₀ y) (fun o' => u o' ++ own) (sDel c n) s) E { s with heap := h, toks := tk })
    (done : ∀ o (q : Str → Option Value) h tk, TDict prog w o (sDelAll c₀ ns) → Fr h₀ env.locals h (fun y => if y = x then q y else m₀ y) → News h₀ env.locals h (u o) → Q .next { s with heap := h, toks := tk }) :
    wpAny (model prog w) A (pyIter (.ref l)) (fun it s₂ => LoopAtV prog w A h₀ env x body Q E it s₂) E s := by
  have hN : news = u o₀ := upd_self U
  subst hN
  refine kst_listL (σ := Obj × Bk) (fun c => u c.1) (fun _ => []) (fun c => TDict prog w c.1 c.2) [] (fun pre c => c.2 = sDelAll c₀ pre) (o₀, c₀) hh (fun c => hl c.1) hi F N T (fun p hp => nomatch hp) rfl ?_ ?_
  · rintro ⟨o, c⟩ pre post n t uu h tk own hns' hn hoff hT hP F₁ N₁
    simp only at hT hP N₁ hoff ⊢
    have hd : d ∈ (u o₀).map (·.1) := List.mem_map.mpr ⟨_, upd_mem U, rfl⟩
    have U' : UpdF d o (u o ++ own) (fun o' => u o' ++ own) := upd_app (upd_re U) fun p hp => hoff p hp d hd
    have hnp : n ∉ pre := by
      rw [hns', List.nodup_append] at hns
      exact fun q => hns.2.2 n q n (.head _) rfl
    have hhas : sHas c n = true := by rw [hP, sHas_delAll hnp]; exact hsub n hn
    refine wpAny_mono (turn n t o c h tk own hn hhas (by rw [hP]; exact sDelAll_len _ _) hT U' (upd_mem U') F₁ N₁) (fun f s₂ q => ?_) fun _ _ e => e
    obtain ⟨rfl, o', h', tk', rfl, F', N', T'⟩ := q
    refine ⟨h', tk', _, u o' ++ own, u o', rfl, F', N', fun p hp => List.mem_append_left _ hp, fun p hp => List.mem_append_right _ hp, ?_, ⟨(o', sDel c n), rfl, T', fun p hp => (nomatch hp), fun z hz _ _ => by simp [hz], ?_⟩⟩
    · exact upd_addr U
    · show sDel c n = sDelAll c₀ (pre ++ [n])
      unfold sDelAll
      rw [List.foldl_append, hP]; rfl
  · rintro ⟨o, c⟩ uu h tk hT hP F₁ N₁
    simp only at hT hP N₁
    subst hP
    exact done o uu h tk hT F₁ N₁
end
end Mine
end

/-! part P8 -/
section
open PySem PySem.W PyProof.Rows PyProof.V
open PySem.Spec PySem.Calls
set_option maxRecDepth 100000
set_option linter.unusedVariables false
namespace Mine
theorem fresh_P8 : True := by
  w_top off
  trivial
def kNodup (c : Bk) : Prop := (c.map (·.1)).Nodup
theorem within_nodup {c : Bk} {i j : Int} (h : kNodup c) : (within c i j).Nodup := by
  unfold within
  exact ((skeys_perm c).symm.nodup h).filter _
theorem mem_has {c : Bk} {n : Int} (h : n ∈ c.map (·.1)) : sHas c n = true := by
  obtain ⟨p, hp, e⟩ := List.mem_map.mp h
  exact List.any_eq_true.mpr ⟨p, hp, by simpa using e⟩
theorem within_has {c : Bk} {i j n : Int} (h : n ∈ within c i j) : sHas c n = true := by
  unfold within at h
  exact mem_has ((skeys_perm c).mem_iff.mp (List.mem_filter.mp h).1)
theorem len_ints {prog : Program} {w : World} {A : Around} {E : Value → Shared → Prop} {s : Shared} {h₀ : Heap} {L D : Addr} {news : List (Addr × Obj)} {vs : List Value} {ns : List Int} {Q : Value → Shared → Prop} (N : News h₀ L s.heap news) (hm : (D, LCg.lst vs) ∈ news) (hv : IntsAre vs ns) (hn : ns.length < 64)
    (h : ∀ t k, Q (.int (ns.length : Nat) t) { s with toks := k }) : wpAny (model prog w) A (call (.builtin "len") [.ref D]) Q E s := by
  refine PyProof.Rows.len_list (items := vs.toArray) ⟨_, (N _ hm).1, rfl, _, rfl⟩ (by rw [List.size_toArray, hv.length]; omega) ?_
  rw [List.size_toArray, hv.length]
  exact h _ _
theorem len0 {α : Type} {l : List α} (h : ((l.length : Nat) : Int) = 0) : l = [] := List.eq_nil_of_length_eq_zero (by omega)
theorem len1 {α : Type} {l : List α} (h : ((l.length : Nat) : Int) ≠ 0) : l ≠ [] := fun e => h (by rw [e]; rfl)
theorem within_len {c : Bk} {i j : Int} (h : c.length < 64) : (within c i j).length < 64 := by
  unfold within
  refine Nat.lt_of_le_of_lt (List.length_filter_le _ _) ?_
  rw [((skeys_perm c).length_eq.trans (List.length_map _) : (skeys c).length = c.length)]
  exact h
section
variable {w : World} {p : Program} {loose : List Str} {mean : ExcName → Option Value} {mg mb : Str → Option Value} {dp un : Nat} {gd : Option (List Code)} {cn : Str} {cs : Scope} {a : Addr} {ccd : Value} {cl : List (Str × Addr)} {outer : List Env} {A₀ : Around} {base h₀ : Heap} {L : Addr} {m : Str → Option Value} {news : List (Addr × Obj)} {s : Shared}
    {Q E : Value → Shared → Prop}
local macro_rules | `(tactic| k_mem) => `(tactic| first | (with_reducible assumption) | exact List.mem_cons_self | (refine List.mem_cons_of_mem _ ?_; k_mem))
set_option maxHeartbeats 8000000 in
theorem delete_lines_spec (B : Below A₀ base outer h₀) (F : Fr h₀ L s.heap m) (X : (hd.heap_39 w.params).In h₀) (N : News h₀ L s.heap news) (T : Top p loose mean mg mb h₀) (hk : cs.kind = .function) (hd : dp + 40 < recursionLimit) (hu : un + 400 < cLine)
   (d : Addr) (o : Obj) (c : Bk) (u : Obj → List (Addr × Obj)) (i j : Int) (ti tj : Tok) (hm : (d, o) ∈ news) (U : UpdF d o news u) (lo : (d == sysModules) = false) (TD : TDict PR w o c) (hc : c.length < 64) (hN : kNodup c)
   (ret : within c i j ≠ [] → ∀ o' h' tk', Fr h₀ L h' m → News h₀ L h' (u o') → TDict PR w o' (sDelAll c (within c i j)) → Q .none { s with heap := h', toks := tk' })
   (err : within c i j = [] → RaiseTo base h₀ L m (envX cn cs L a ccd cl :: outer) news "FC" E s) :
   wpAny (model PySem.Challenge.rw_pc0001_01.row.prog w) (ktrTop dp un gd cn cs L a ccd cl outer) (call (.ref 91) [.ref d, .int i ti, .int j tj]) Q E s := by
  revert X; k_fill; intro X
  refine wpAny_call ?_
  k_dflt ktr_enter
  k_with_none
  repeat' (first
    | (k_unfold; (try dsimp only))
    | (k_end; wrow_close)
    | (first | (with_reducible ((k_here; (with_reducible show wpAny _ _ (eval (Expr.Call (Expr.Name _ _) _ [] _) _) _ _ _); k_dflt (refine Call_ ?_)))) | ((k_here; (with_reducible show wpAny _ _ (eval (Expr.Call (Expr.Name _ _) _ [] _) _) _ _ _); k_dflt (refine Call_ ?_))))
    | ((with_reducible show wpAny _ _ (call (Value.ref _) _) _ _ _); first | (with_reducible ((k_here; k_dflt (first | (refine' numbers_within_spec (by k_asm) (by k_asm) (by k_asm) (by k_asm) (by k_asm) (by rfl) (by first | exact room1 (by with_reducible assumption) (by decide) | ktr_room) (by first | exact units1 (by with_reducible assumption) (by decide) | ktr_units) _ _ _ _ _ _ _ (by k_mem) (by assumption) (by assumption) (by assumption) ?_; intro _ _ _ _ _ _ _ _; (try k_fold)) | (refine' call_basic (by k_asm) (by k_asm) (by k_asm) (by k_asm) (by k_asm) (by rfl) (by first | exact room1 (by with_reducible assumption) (by decide) | ktr_room) (by first | exact units1 (by with_reducible assumption) (by decide) | ktr_units) _ _ _ ?_; intro _ _ _ _ _ _ F' _ he' _ _ _ _ _; refine' ⟨_, _, _, rfl, Frag.In.keeps (by k_asm) (Fr.keep F'), he', ?_⟩; (try dsimp only)))))) | ((k_here; k_dflt (first | (refine' numbers_within_spec (by k_asm) (by k_asm) (by k_asm) (by k_asm) (by k_asm) (by rfl) (by first | exact room1 (by with_reducible assumption) (by decide) | ktr_room) (by first | exact units1 (by with_reducible assumption) (by decide) | ktr_units) _ _ _ _ _ _ _ (by k_mem) (by assumption) (by assumption) (by assumption) ?_; intro _ _ _ _ _ _ _ _; (try k_fold)) | (refine' call_basic (by k_asm) (by k_asm) (by k_asm) (by k_asm) (by k_asm) (by rfl) (by first | exact room1 (by with_reducible assumption) (by decide) | ktr_room) (by first | exact units1 (by with_reducible assumption) (by decide) | ktr_units) _ _ _ ?_; intro _ _ _ _ _ _ F' _ he' _ _ _ _ _; refine' ⟨_, _, _, rfl, Frag.In.keeps (by k_asm) (Fr.keep F'), he', ?_⟩; (try dsimp only))))))
    | ((with_reducible show wpAny _ _ (call (Value.builtin "dict.pop") _) _ _ _); first | (with_reducible ((k_here; k_dflt (refine' (fun a F N U T k c z1 => td_pop F N U T k c z1 a) (by exact PySem.F.args_dict_pop_2 _ _) (by k_asm) (by k_asm) (by assumption) (by assumption) (by assumption) (by omega) ?_); intro _ _ _ _ _ _ _ _))) | ((k_here; k_dflt (refine' (fun a F N U T k c z1 => td_pop F N U T k c z1 a) (by exact PySem.F.args_dict_pop_2 _ _) (by k_asm) (by k_asm) (by assumption) (by assumption) (by assumption) (by omega) ?_); intro _ _ _ _ _ _ _ _)))
    | ((with_reducible show wpAny _ _ (pyIter (Value.ref _)) _ _ _); first | (with_reducible ((k_here; k_dflt (refine' (fun hh F N U hl T hi n s dn tu => iter_pops hh hl hi F N U T n s tu dn) (by rfl) (by k_asm) (by k_asm) (by exact upd_tailne (by assumption) (by assumption) (by assumption)) (by intro _; exact List.mem_cons_self) (by assumption) (by assumption) (by exact within_nodup (by assumption)) (by exact fun _ h => within_has h) ?_ ?_; (focus (intro o' _ h' tk' T' F' N')); rotate_left; (focus (intro _ _ _ _ _ _ _ _ _ _ _ _ _ _ _)); rotate_left)))) | ((k_here; k_dflt (refine' (fun hh F N U hl T hi n s dn tu => iter_pops hh hl hi F N U T n s tu dn) (by rfl) (by k_asm) (by k_asm) (by exact upd_tailne (by assumption) (by assumption) (by assumption)) (by intro _; exact List.mem_cons_self) (by assumption) (by assumption) (by exact within_nodup (by assumption)) (by exact fun _ h => within_has h) ?_ ?_; (focus (intro o' _ h' tk' T' F' N')); rotate_left; (focus (intro _ _ _ _ _ _ _ _ _ _ _ _ _ _ _)); rotate_left))))
    | ((with_reducible show wpAny _ _ (call (Value.builtin "len") [Value.ref _]) _ _ _); first | (with_reducible ((k_here; k_dflt (refine' len_ints (by k_asm) (by k_mem) (by assumption) (by first | assumption | exact within_len (by assumption)) ?_); intro _ _))) | ((k_here; k_dflt (refine' len_ints (by k_asm) (by k_mem) (by assumption) (by first | assumption | exact within_len (by assumption)) ?_); intro _ _)))
    | (first | (with_reducible ((k_here; (with_reducible show wpAny _ _ (getMethod (Value.ref _) (Str.ofString "pop") _) _ _ _); k_dflt (refine' td_getpop (by k_asm) (by k_mem) (by assumption) (by assumption) ?_)))) | ((k_here; (with_reducible show wpAny _ _ (getMethod (Value.ref _) (Str.ofString "pop") _) _ _ _); k_dflt (refine' td_getpop (by k_asm) (by k_mem) (by assumption) (by assumption) ?_))))
    | ((with_reducible show wpAny _ _ (leaving _ _) _ _ _); first | (with_reducible ((k_here; k_dflt ((refine' leave_raiseD (by k_asm) (by k_asm) (by k_asm) (by assumption) (by assumption) (by exact hne_cons (by assumption) (by assumption)) (by rfl) ?_; intro _ _ _))))) | ((k_here; k_dflt ((refine' leave_raiseD (by k_asm) (by k_asm) (by k_asm) (by assumption) (by assumption) (by exact hne_cons (by assumption) (by assumption)) (by rfl) ?_; intro _ _ _)))))
    | ((with_reducible show wpAny _ _ (exec (Stmt.Raise (some _) none _) _) _ _ _); first | (with_reducible ((k_here; k_dflt (refine' exec_raise34 (by k_asm) (by rfl) ?_)))) | ((k_here; k_dflt (refine' exec_raise34 (by k_asm) (by rfl) ?_))))
    | ((with_reducible show wpAny _ _ (exec _ _) _ _ _); k_here; k_fold; walk1)
    | walk1
    | (dsimp only; walk1)
    | (leave1; walk_say "STEP leave1"; try dsimp only)
    | fail "no step")
  · exact err (len0 (by assumption)) _ _ _ _ _ _ (by assumption) (RaisedD.sub (by assumption) sub_two) (by assumption) ⟨_, _, by assumption⟩
  · exact ret (len1 (by assumption)) _ _ _ (by assumption) (news_tl (by assumption)) (by assumption)
  · exact ⟨rfl, _, _, _, rfl, by assumption, by assumption, by assumption⟩
end
end Mine
end

/-! part P9 -/
section
open PySem PySem.W PyProof.Rows PyProof.V
open PySem.Spec PySem.Calls
set_option maxRecDepth 100000
set_option linter.unusedVariables false
namespace Mine
theorem fresh_P9 : True := by
  w_top off
  trivial
section
variable {prog : Program} {w : World} {A : Around} {h₀ : Heap} {L : Addr} {m : Str → Option Value} {env : Env} {elt : PySem.Expr} {x : Str} {scope : Scope} {cl : List (Str × Addr)} {s : Shared} {S : List (Addr × Obj) → Prop} {Fin : List Value → List (Addr × Obj) → Prop} {news : List (Addr × Obj)}
theorem ints_sz {vs : List Value} {ns : List Int} (h : IntsAre vs ns) (hn : ns.length < 64) : vs.toArray.size ≤ sizeLine := by
  rw [PySem.sizeLine_eq, List.size_toArray, h.length]; omega
def StrEnd (g : Str) (news : List (Addr × Obj)) (y : Value) (news' : List (Addr × Obj)) : Prop := news' = news ∧ ∃ t', y = .str g t'
theorem strs_snoc {y : Str} {t : Tok} : ∀ {vs : List Value} {ys : List Str}, StrsAre vs ys → StrsAre (vs ++ [.str y t]) (ys ++ [y])
  | _, _, .nil => .cons y t .nil
  | _, _, .cons z u r => .cons z u (strs_snoc r)
theorem lcs_list {vs : List Value} {ns : List Int} (g : Int → Str) (hi : IntsAre vs ns)
  (turn : ∀ k t I oI C oC D m₂ ys h tk (E' : Value → Shared → Prop), k ∈ ns → LCg.NsObj oC m₂ → m₂ x = some (.int k t) → Fr h₀ L h m → News h₀ L h ((I, oI) :: (C, oC) :: (D, LCg.lst ys) :: news) → LCg.Off3 I C D news → ((@Ne Nat I C) ∧ (@Ne Nat I D) ∧ (@Ne Nat C D)) →
      wpAny (model prog w) A (eval elt (compEnvC scope cl C env)) (LCg.CompEnd h₀ L m { s with heap := h, toks := tk } I oI C oC D (LCg.lst ys) S (StrEnd (g k) news)) E' { s with heap := h, toks := tk })
  (fin : ∀ ys, StrsAre ys (ns.map g) → Fin ys news) :
  LCg.CompRest prog w A h₀ L m env elt x scope cl s S (fun i v => vs.toArray[i]? = some v) Fin vs.toArray.size 0 [] news := by
  have hks : ns.length = vs.toArray.size := by rw [List.size_toArray]; exact hi.length.symm
  have key : ∀ (j i : Nat) (ys : List Value), i + j = vs.toArray.size → StrsAre ys ((ns.take i).map g) → LCg.CompRest prog w A h₀ L m env elt x scope cl s S (fun i v => vs.toArray[i]? = some v) Fin j i ys news := by
    intro j
    induction j with
    | zero =>
      intro i ys hi hy
      have e : i = ns.length := by omega
      subst e
      rw [List.take_length] at hy
      exact LCg.CompRest.zero (fin ys hy)
    | succ j ih =>
      intro i ys hij hy
      refine LCg.CompRest.succ ?_
      intro v I oI C oC D m₂ h tk E' hv hC hx F N off ne
      obtain ⟨k, t, hv', hk⟩ := IntsAre.at hi i v (by simpa using hv)
      rw [hv'] at hx
      refine wpAny_mono (turn k t I oI C oC D m₂ ys h tk E' (List.mem_of_getElem? hk) hC hx F N off ne) (fun y s₂ hq => ?_) fun _ _ e => e
      obtain ⟨h', tk', nw, e, F', N', off', hS, hn, t', hy'⟩ := hq
      rw [hn] at N' off' hS
      refine ⟨h', tk', news, e, F', N', off', hS, ?_⟩
      rw [hy']
      refine ih (i + 1) _ (by omega) ?_
      rw [List.take_add_one, hk]
      simpa using strs_snoc hy
  exact key _ 0 [] (by omega) (by simp only [List.take_zero, List.map_nil]; exact .nil)
end
theorem within_mem {c : Bk} {i j k : Int} (hN : kNodup c) (h : k ∈ within c i j) : ∃ x, (k, x) ∈ c ∧ sLook c k = some x := by
  unfold within at h
  have h' := (skeys_perm c).mem_iff.mp (List.mem_filter.mp h).1
  obtain ⟨q, hq, rfl⟩ := List.mem_map.mp h'
  exact ⟨q.2, hq, sLook_mem hN hq⟩
def rowOf (k : Int) (x : Str) : Str := Str.ofString (toString k) ++ Str.ofString " " ++ x
def rowAt (c : Bk) (k : Int) : Str := rowOf k ((sLook c k).getD (Str.ofString ""))
theorem news_one {g h : Heap} {L : Addr} {p p1 p2 : Addr × Obj} {news : List (Addr × Obj)} (N : News g L h (p :: p1 :: p2 :: news)) : News g L h (p :: news) := fun q hq => N q (by
  rcases List.mem_cons.mp hq with rfl | hq
  · exact List.mem_cons_self
  · exact List.mem_cons_of_mem _ (List.mem_cons_of_mem _ (List.mem_cons_of_mem _ hq)))
structure OkB (c : Bk) : Prop where
  nod : kNodup c
  len : c.length < 64
  low : ∀ q ∈ c, 0 ≤ q.1
  top : ∀ q ∈ c, q.1 ≤ 65529
  txt : ∀ q ∈ c, q.2.length ≤ 1000
section
variable {w : World} {p : Program} {loose : List Str} {mean : ExcName → Option Value} {mg mb : Str → Option Value} {dp un : Nat} {gd : Option (List Code)} {cn : Str} {cs : Scope} {a : Addr} {ccd : Value} {cl : List (Str × Addr)} {outer : List Env} {A₀ : Around} {base h₀ : Heap} {L : Addr} {m : Str → Option Value} {news : List (Addr × Obj)} {s : Shared}
    {Q E : Value → Shared → Prop}
local macro_rules | `(tactic| k_mem) => `(tactic| first | (with_reducible assumption) | exact List.mem_cons_self | (refine List.mem_cons_of_mem _ ?_; k_mem))
set_option maxHeartbeats 8000000 in
theorem listed_rows_spec (B : Below A₀ base outer h₀) (F : Fr h₀ L s.heap m) (X : (hd.heap_39 w.params).In h₀) (N : News h₀ L s.heap news) (T : Top p loose mean mg mb h₀) (hk : cs.kind = .function) (hd : dp + 40 < recursionLimit) (hu : un + 400 < cLine)
   (d : Addr) (o : Obj) (c : Bk) (i j : Int) (ti tj : Tok) (hm : (d, o) ∈ news) (lo : (d == sysModules) = false) (TD : TDict PR w o c) (ok : OkB c)
   (ret : ∀ D vs h' tk', StrsAre vs ((within c i j).map (rowAt c)) → Fr h₀ L h' m → News h₀ L h' ((D, LCg.lst vs) :: news) → (∀ q ∈ news, q.1 ≠ D) → Q (.ref D) { s with heap := h', toks := tk' }) :
   wpAny (model PySem.Challenge.rw_pc0001_01.row.prog w) (ktrTop dp un gd cn cs L a ccd cl outer) (call (.ref 96) [.ref d, .int i ti, .int j tj]) Q E s := by
  revert X; k_fill; intro X
  refine wpAny_call ?_
  k_dflt (refine' code_defC ?k1 ?k2 ?k3 ?k4 ?k5 ?kA ?kF ?kK ?k6 ?k7 ?k8 ?k9 ?kB ?kD ?_ ?c2 ?c3 ?c4; (case kA => exact rfl); (case kF => exact rfl); (case kK => assumption); (case k1 => k_asm); (case k2 => k_asm); (case k3 => k_asm); (case k4 => k_asm); (case k5 => k_asm); (case k6 => k_is); (case k7 => k_is); (case k8 => ktr_room); (case k9 => exact BindsTo.of_eq rfl); (case kB => exact rfl); (case kD => decide +kernel); (case c2 => exact rfl); (case c3 => exact rfl); (case c4 => exact rfl); k_whole; intro g' L' h' tk' cells' FG' F' N' Y' B' X' T' l1; k_cells Y'; (try simp only [List.cons_append, List.nil_append] at N'); (try dsimp only); (try k_fold))
  have hc := ok.len
  k_with_none
  repeat' (first
    | (k_unfold; (try dsimp only))
    | (k_end; wrow_close)
    | ((with_reducible show wpAny _ _ (eval (Expr.ListComp _ _ _ _) _) _ _ _); first | (with_reducible ((k_here; k_dflt (refine LCg.ListComp_U (F₀ := by k_asm) (by with_unfolding_all rfl) (by decide) (by rfl) (by decide) (by rfl) ?_)))) | ((k_here; k_dflt (refine LCg.ListComp_U (F₀ := by k_asm) (by with_unfolding_all rfl) (by decide) (by rfl) (by decide) (by rfl) ?_))))
    | (first | (with_reducible ((k_here; (with_reducible show wpAny _ _ (eval (Expr.Call (Expr.Name _ _) _ [] _) _) _ _ _); k_dflt (refine Call_ ?_)))) | ((k_here; (with_reducible show wpAny _ _ (eval (Expr.Call (Expr.Name _ _) _ [] _) _) _ _ _); k_dflt (refine Call_ ?_))))
    | ((with_reducible show wpAny _ _ (subscriptTail (Expr.Name _ _) (Expr.Name _ _) (Value.ref _) (Value.int _ _)) _ _ _); first | (with_reducible ((k_here; k_dflt (refine' td_item (by k_asm) (by k_mem) (by assumption) (by assumption) (by assumption) ?_ (by with_unfolding_all rfl) (by intro _; with_unfolding_all rfl); intro _)))) | ((k_here; k_dflt (refine' td_item (by k_asm) (by k_mem) (by assumption) (by assumption) (by assumption) ?_ (by with_unfolding_all rfl) (by intro _; with_unfolding_all rfl); intro _))))
    | ((with_reducible show wpAny _ _ (call (Value.ref _) _) _ _ _); first | (with_reducible ((k_here; k_dflt ((refine' numbers_within_spec (by k_asm) (by k_asm) (by k_asm) (by k_asm) (by k_asm) (by rfl) (by first | exact room1 (by with_reducible assumption) (by decide) | ktr_room) (by first | exact units1 (by with_reducible assumption) (by decide) | ktr_units) _ _ _ _ _ _ _ (by k_mem) (by assumption) (by assumption) (by assumption) ?_; intro _ _ _ _ _ _ _ _; (try k_fold)))))) | ((k_here; k_dflt ((refine' numbers_within_spec (by k_asm) (by k_asm) (by k_asm) (by k_asm) (by k_asm) (by rfl) (by first | exact room1 (by with_reducible assumption) (by decide) | ktr_room) (by first | exact units1 (by with_reducible assumption) (by decide) | ktr_units) _ _ _ _ _ _ _ (by k_mem) (by assumption) (by assumption) (by assumption) ?_; intro _ _ _ _ _ _ _ _; (try k_fold))))))
    | ((with_reducible show wpAny _ _ (exec _ _) _ _ _); k_here; k_fold; walk1)
    | walk1
    | (dsimp only; walk1)
    | (leave1; walk_say "STEP leave1"; try dsimp only)
    | fail "no step")
  refine' LCg.CompSrc.ledger ?a ?b ?c ?d ?e ?_
  case a => rfl
  case b => k_asm
  case c => k_asm
  case d => k_mem
  case e => exact ints_sz (by assumption) (within_len (by assumption))
  intro g'
  refine lcs_list (rowAt c) (by assumption) (fun k' t' I' oI' C' oC' D' m' ys' h' tk' E' hk' hC' hx' F' N' off' ne' => ?_) ?_
  · obtain ⟨tx, htx, hlk⟩ := within_mem ok.nod hk'
    have hk0 := ok.low _ htx
    have hk1 := ok.top _ htx
    have htl := ok.txt _ htx
    simp only at hk0 hk1 htl
    repeat' (first
      | (k_unfold; (try dsimp only))
      | (k_end; wrow_close)
      | ((with_reducible show wpAny _ _ (eval (Expr.ListComp _ _ _ _) _) _ _ _); first | (with_reducible ((k_here; k_dflt (refine LCg.ListComp_U (F₀ := by k_asm) (by with_unfolding_all rfl) (by decide) (by rfl) (by decide) (by rfl) ?_)))) | ((k_here; k_dflt (refine LCg.ListComp_U (F₀ := by k_asm) (by with_unfolding_all rfl) (by decide) (by rfl) (by decide) (by rfl) ?_))))
      | (first | (with_reducible ((k_here; (with_reducible show wpAny _ _ (eval (Expr.Call (Expr.Name _ _) _ [] _) _) _ _ _); k_dflt (refine Call_ ?_)))) | ((k_here; (with_reducible show wpAny _ _ (eval (Expr.Call (Expr.Name _ _) _ [] _) _) _ _ _); k_dflt (refine Call_ ?_))))
      | ((with_reducible show wpAny _ _ (subscriptTail (Expr.Name _ _) (Expr.Name _ _) (Value.ref _) (Value.int _ _)) _ _ _); first | (with_reducible ((k_here; k_dflt (refine' td_item (by k_asm) (by k_mem) (by assumption) (by assumption) (by assumption) ?_ (by with_unfolding_all rfl) (by intro _; with_unfolding_all rfl); intro _)))) | ((k_here; k_dflt (refine' td_item (by k_asm) (by k_mem) (by assumption) (by assumption) (by assumption) ?_ (by with_unfolding_all rfl) (by intro _; with_unfolding_all rfl); intro _))))
      | ((with_reducible show wpAny _ _ (call (Value.ref _) _) _ _ _); first | (with_reducible ((k_here; k_dflt ((refine' numbers_within_spec (by k_asm) (by k_asm) (by k_asm) (by k_asm) (by k_asm) (by rfl) (by first | exact room1 (by with_reducible assumption) (by decide) | ktr_room) (by first | exact units1 (by with_reducible assumption) (by decide) | ktr_units) _ _ _ _ _ _ _ (by k_mem) (by assumption) (by assumption) (by assumption) ?_; intro _ _ _ _ _ _ _ _; (try k_fold)))))) | ((k_here; k_dflt ((refine' numbers_within_spec (by k_asm) (by k_asm) (by k_asm) (by k_asm) (by k_asm) (by rfl) (by first | exact room1 (by with_reducible assumption) (by decide) | ktr_room) (by first | exact units1 (by with_reducible assumption) (by decide) | ktr_units) _ _ _ _ _ _ _ (by k_mem) (by assumption) (by assumption) (by assumption) ?_; intro _ _ _ _ _ _ _ _; (try k_fold))))))
      | ((with_reducible show wpAny _ _ (exec _ _) _ _ _); k_here; k_fold; walk1)
      | walk1
      | (dsimp only; walk1)
      | (leave1; walk_say "STEP leave1"; try dsimp only)
      | fail "no step")
    exact ⟨h', _, _, rfl, F', N', off', .inr ⟨_, List.mem_cons_self, rfl, _, rfl⟩, rfl, _, by unfold rowAt; rw [hlk]; rfl⟩
  · intro ys' hy'
    repeat' (first
      | (k_unfold; (try dsimp only))
      | (k_end; wrow_close)
      | ((with_reducible show wpAny _ _ (eval (Expr.ListComp _ _ _ _) _) _ _ _); first | (with_reducible ((k_here; k_dflt (refine LCg.ListComp_U (F₀ := by k_asm) (by with_unfolding_all rfl) (by decide) (by rfl) (by decide) (by rfl) ?_)))) | ((k_here; k_dflt (refine LCg.ListComp_U (F₀ := by k_asm) (by with_unfolding_all rfl) (by decide) (by rfl) (by decide) (by rfl) ?_))))
      | (first | (with_reducible ((k_here; (with_reducible show wpAny _ _ (eval (Expr.Call (Expr.Name _ _) _ [] _) _) _ _ _); k_dflt (refine Call_ ?_)))) | ((k_here; (with_reducible show wpAny _ _ (eval (Expr.Call (Expr.Name _ _) _ [] _) _) _ _ _); k_dflt (refine Call_ ?_))))
      | ((with_reducible show wpAny _ _ (subscriptTail (Expr.Name _ _) (Expr.Name _ _) (Value.ref _) (Value.int _ _)) _ _ _); first | (with_reducible ((k_here; k_dflt (refine' td_item (by k_asm) (by k_mem) (by assumption) (by assumption) (by assumption) ?_ (by with_unfolding_all rfl) (by intro _; with_unfolding_all rfl); intro _)))) | ((k_here; k_dflt (refine' td_item (by k_asm) (by k_mem) (by assumption) (by assumption) (by assumption) ?_ (by with_unfolding_all rfl) (by intro _; with_unfolding_all rfl); intro _))))
      | ((with_reducible show wpAny _ _ (call (Value.ref _) _) _ _ _); first | (with_reducible ((k_here; k_dflt ((refine' numbers_within_spec (by k_asm) (by k_asm) (by k_asm) (by k_asm) (by k_asm) (by rfl) (by first | exact room1 (by with_reducible assumption) (by decide) | ktr_room) (by first | exact units1 (by with_reducible assumption) (by decide) | ktr_units) _ _ _ _ _ _ _ (by k_mem) (by assumption) (by assumption) (by assumption) ?_; intro _ _ _ _ _ _ _ _; (try k_fold)))))) | ((k_here; k_dflt ((refine' numbers_within_spec (by k_asm) (by k_asm) (by k_asm) (by k_asm) (by k_asm) (by rfl) (by first | exact room1 (by with_reducible assumption) (by decide) | ktr_room) (by first | exact units1 (by with_reducible assumption) (by decide) | ktr_units) _ _ _ _ _ _ _ (by k_mem) (by assumption) (by assumption) (by assumption) ?_; intro _ _ _ _ _ _ _ _; (try k_fold))))))
      | ((with_reducible show wpAny _ _ (exec _ _) _ _ _); k_here; k_fold; walk1)
      | walk1
      | (dsimp only; walk1)
      | (leave1; walk_say "STEP leave1"; try dsimp only)
      | fail "no step")
    exact ret _ _ _ _ hy' (by assumption) (news_one (by assumption)) (off1_mem (by rename_i o1' _ _ _ _; exact o1'.2.2))
end
end Mine
end

/-! part P10 -/
section
open PySem PySem.W PyProof.Rows PyProof.V
open PySem.Spec PySem.Calls
set_option maxRecDepth 100000
set_option linter.unusedVariables false
namespace Mine
theorem fresh_P10 : True := by
  w_top off
  trivial
section
variable {w : World} {p : Program} {loose : List Str} {mean : ExcName → Option Value} {mg mb : Str → Option Value} {dp un : Nat} {gd : Option (List Code)} {cn : Str} {cs : Scope} {a : Addr} {ccd : Value} {cl : List (Str × Addr)} {outer : List Env} {A₀ : Around} {base h₀ : Heap} {L : Addr} {m : Str → Option Value} {news : List (Addr × Obj)} {s : Shared}
    {Q E : Value → Shared → Prop}
local macro_rules | `(tactic| k_mem) => `(tactic| first | (with_reducible assumption) | exact List.mem_cons_self | (refine List.mem_cons_of_mem _ ?_; k_mem))
set_option maxHeartbeats 8000000 in
theorem auto_begin_spec (B : Below A₀ base outer h₀) (F : Fr h₀ L s.heap m) (X : (hd.heap_39 w.params).In h₀) (N : News h₀ L s.heap news) (T : Top p loose mean mg mb h₀) (hk : cs.kind = .function) (hd : dp + 40 < recursionLimit) (hu : un + 400 < cLine)
   (d : Addr) (o : Obj) (c : Bk) (i : Int) (ti : Tok) (hm : (d, o) ∈ news) (lo : (d == sysModules) = false) (TD : TDict PR w o c) (h0 : 0 ≤ i) (h1 : i ≤ 65529)
   (ret : ∀ h' tk' t', Fr h₀ L h' m → News h₀ L h' news → Q (.str (Str.ofString (toString i) ++ (if sHas c i then Str.ofString "*" else Str.ofString " ")) t') { s with heap := h', toks := tk' }) :
   wpAny (model PySem.Challenge.rw_pc0001_01.row.prog w) (ktrTop dp un gd cn cs L a ccd cl outer) (call (.ref 110) [.ref d, .int i ti]) Q E s := by
  revert X; k_fill; intro X
  refine wpAny_call ?_
  k_dflt ktr_enter
  k_with_none
  repeat' (first
    | (k_unfold; (try dsimp only))
    | (k_end; wrow_close)
    | ((with_reducible show wpAny _ _ (compareOp CmpOp.In (Value.int _ _) (Value.ref _)) _ _ _); first | (with_reducible ((k_here; k_dflt (refine' td_in (by k_asm) (by k_mem) (by assumption) (by assumption) ?_)))) | ((k_here; k_dflt (refine' td_in (by k_asm) (by k_mem) (by assumption) (by assumption) ?_))))
    | ((with_reducible show wpAny _ _ (setItem (Value.ref _) (Value.int _ _) _) _ _ _); first | (with_reducible ((k_here; k_dflt (refine' td_set (by k_asm) (by k_asm) (by assumption) (by assumption) (by omega) ?_); intro _ _ _ _ _))) | ((k_here; k_dflt (refine' td_set (by k_asm) (by k_asm) (by assumption) (by assumption) (by omega) ?_); intro _ _ _ _ _)))
    | (first | (with_reducible ((k_here; (with_reducible show wpAny _ _ (call (Value.builtin "str.strip") [Value.str _ _, Value.str _ _]) _ _ _); refine SCL.stripChars (hsz := by exact size_le (by assumption)) ?_; intro _ _ _))) | ((k_here; (with_reducible show wpAny _ _ (call (Value.builtin "str.strip") [Value.str _ _, Value.str _ _]) _ _ _); refine SCL.stripChars (hsz := by exact size_le (by assumption)) ?_; intro _ _ _)))
    | (first | (with_reducible ((k_here; (with_reducible show wpAny _ _ (eval (Expr.Call (Expr.Name _ _) _ [] _) _) _ _ _); k_dflt (refine Call_ ?_)))) | ((k_here; (with_reducible show wpAny _ _ (eval (Expr.Call (Expr.Name _ _) _ [] _) _) _ _ _); k_dflt (refine Call_ ?_))))
    | ((with_reducible show wpAny _ _ (call (Value.ref _) _) _ _ _); first | (with_reducible ((k_here; k_dflt ((refine' line_number_spec (by k_asm) (by k_asm) (by k_asm) (by k_asm) (by k_asm) (by rfl) (by first | exact room1 (by with_reducible assumption) (by decide) | ktr_room) (by first | exact units1 (by with_reducible assumption) (by decide) | ktr_units) _ _ (by assumption) (by assumption) ?_; intro _ _ _ _; (try k_fold)))))) | ((k_here; k_dflt ((refine' line_number_spec (by k_asm) (by k_asm) (by k_asm) (by k_asm) (by k_asm) (by rfl) (by first | exact room1 (by with_reducible assumption) (by decide) | ktr_room) (by first | exact units1 (by with_reducible assumption) (by decide) | ktr_units) _ _ (by assumption) (by assumption) ?_; intro _ _ _ _; (try k_fold))))))
    | ((with_reducible show wpAny _ _ (exec _ _) _ _ _); k_here; k_fold; walk1)
    | walk1
    | (dsimp only; walk1)
    | (leave1; walk_say "STEP leave1"; try dsimp only)
    | fail "no step")
  · have hs : sHas c i = true := by assumption
    have e : (Str.ofString (toString i) ++ Str.ofString "*") = Str.ofString (toString i) ++ (if sHas c i then Str.ofString "*" else Str.ofString " ") := by rw [hs]; rfl
    rw [e]; exact ret _ _ _ (by assumption) (by assumption)
  · have hs : sHas c i = false := by assumption
    have e : (Str.ofString (toString i) ++ Str.ofString " ") = Str.ofString (toString i) ++ (if sHas c i then Str.ofString "*" else Str.ofString " ") := by rw [hs]; rfl
    rw [e]; exact ret _ _ _ (by assumption) (by assumption)
set_option maxHeartbeats 8000000 in
theorem auto_next_spec (B : Below A₀ base outer h₀) (F : Fr h₀ L s.heap m) (X : (hd.heap_39 w.params).In h₀) (N : News h₀ L s.heap news) (T : Top p loose mean mg mb h₀) (hk : cs.kind = .function) (hd : dp + 40 < recursionLimit) (hu : un + 400 < cLine)
   (i j : Int) (ti tj : Tok) (h0 : 0 ≤ i) (h1 : i ≤ 65529) (h2 : 0 ≤ j) (h3 : j ≤ 20)
   (ret1 : 0 < j → i + j ≤ 65529 → ∀ h' tk' t', Fr h₀ L h' m → News h₀ L h' news → Q (.int (i + j) t') { s with heap := h', toks := tk' })
   (ret0 : ¬ (0 < j ∧ i + j ≤ 65529) → ∀ h' tk', Fr h₀ L h' m → News h₀ L h' news → Q .none { s with heap := h', toks := tk' }) :
   wpAny (model PySem.Challenge.rw_pc0001_01.row.prog w) (ktrTop dp un gd cn cs L a ccd cl outer) (call (.ref 117) [.int i ti, .int j tj]) Q E s := by
  revert X; k_fill; intro X
  refine wpAny_call ?_
  k_dflt ktr_enter
  k_with_none
  repeat' (first
    | (k_unfold; (try dsimp only))
    | (k_end; wrow_close)
    | ((with_reducible show wpAny _ _ (compareOp CmpOp.In (Value.int _ _) (Value.ref _)) _ _ _); first | (with_reducible ((k_here; k_dflt (refine' td_in (by k_asm) (by k_mem) (by assumption) (by assumption) ?_)))) | ((k_here; k_dflt (refine' td_in (by k_asm) (by k_mem) (by assumption) (by assumption) ?_))))
    | ((with_reducible show wpAny _ _ (setItem (Value.ref _) (Value.int _ _) _) _ _ _); first | (with_reducible ((k_here; k_dflt (refine' td_set (by k_asm) (by k_asm) (by assumption) (by assumption) (by omega) ?_); intro _ _ _ _ _))) | ((k_here; k_dflt (refine' td_set (by k_asm) (by k_asm) (by assumption) (by assumption) (by omega) ?_); intro _ _ _ _ _)))
    | (first | (with_reducible ((k_here; (with_reducible show wpAny _ _ (call (Value.builtin "str.strip") [Value.str _ _, Value.str _ _]) _ _ _); refine SCL.stripChars (hsz := by exact size_le (by assumption)) ?_; intro _ _ _))) | ((k_here; (with_reducible show wpAny _ _ (call (Value.builtin "str.strip") [Value.str _ _, Value.str _ _]) _ _ _); refine SCL.stripChars (hsz := by exact size_le (by assumption)) ?_; intro _ _ _)))
    | (first | (with_reducible ((k_here; (with_reducible show wpAny _ _ (eval (Expr.Call (Expr.Name _ _) _ [] _) _) _ _ _); k_dflt (refine Call_ ?_)))) | ((k_here; (with_reducible show wpAny _ _ (eval (Expr.Call (Expr.Name _ _) _ [] _) _) _ _ _); k_dflt (refine Call_ ?_))))
    | ((with_reducible show wpAny _ _ (call (Value.ref _) _) _ _ _); first | (with_reducible ((k_here; k_dflt ((refine' line_number_spec (by k_asm) (by k_asm) (by k_asm) (by k_asm) (by k_asm) (by rfl) (by first | exact room1 (by with_reducible assumption) (by decide) | ktr_room) (by first | exact units1 (by with_reducible assumption) (by decide) | ktr_units) _ _ (by assumption) (by assumption) ?_; intro _ _ _ _; (try k_fold)))))) | ((k_here; k_dflt ((refine' line_number_spec (by k_asm) (by k_asm) (by k_asm) (by k_asm) (by k_asm) (by rfl) (by first | exact room1 (by with_reducible assumption) (by decide) | ktr_room) (by first | exact units1 (by with_reducible assumption) (by decide) | ktr_units) _ _ (by assumption) (by assumption) ?_; intro _ _ _ _; (try k_fold))))))
    | ((with_reducible show wpAny _ _ (exec _ _) _ _ _); k_here; k_fold; walk1)
    | walk1
    | (dsimp only; walk1)
    | (leave1; walk_say "STEP leave1"; try dsimp only)
    | fail "no step")
  · exact ret1 (by omega) (by omega) _ _ _ (by assumption) (by assumption)
  · exact ret0 (by omega) _ _ (by assumption) (by assumption)
  · exact ret0 (by omega) _ _ (by assumption) (by assumption)
set_option maxHeartbeats 8000000 in
theorem auto_row_spec (B : Below A₀ base outer h₀) (F : Fr h₀ L s.heap m) (X : (hd.heap_39 w.params).In h₀) (N : News h₀ L s.heap news) (T : Top p loose mean mg mb h₀) (hk : cs.kind = .function) (hd : dp + 40 < recursionLimit) (hu : un + 400 < cLine)
   (d : Addr) (o : Obj) (c : Bk) (u : Obj → List (Addr × Obj)) (i : Int) (ti : Tok) (x : Str) (tx : Tok) (hm : (d, o) ∈ news) (U : UpdF d o news u) (lo : (d == sysModules) = false) (TD : TDict PR w o c) (hc : c.length < 64) (h0 : 0 ≤ i) (h1 : i ≤ 65529) (hx : x.length ≤ 1000)
   (ret0 : (Txt.stripChars x (Str.ofString " ") == Str.ofString "") = true → ∀ h' tk', Fr h₀ L h' m → News h₀ L h' news → Q (.bool (sHas c i)) { s with heap := h', toks := tk' })
   (ret1 : (Txt.stripChars x (Str.ofString " ") == Str.ofString "") = false → ∀ o' h' tk', Fr h₀ L h' m → News h₀ L h' (u o') → TDict PR w o' (sPut c i (Txt.stripChars x (Str.ofString " "))) → Q (.bool true) { s with heap := h', toks := tk' }) :
   wpAny (model PySem.Challenge.rw_pc0001_01.row.prog w) (ktrTop dp un gd cn cs L a ccd cl outer) (call (.ref 124) [.ref d, .int i ti, .str x tx]) Q E s := by
  revert X; k_fill; intro X
  refine wpAny_call ?_
  k_dflt ktr_enter
  k_with_none
  repeat' (first
    | (k_unfold; (try dsimp only))
    | (k_end; wrow_close)
    | ((with_reducible show wpAny _ _ (compareOp CmpOp.In (Value.int _ _) (Value.ref _)) _ _ _); first | (with_reducible ((k_here; k_dflt (refine' td_in (by k_asm) (by k_mem) (by assumption) (by assumption) ?_)))) | ((k_here; k_dflt (refine' td_in (by k_asm) (by k_mem) (by assumption) (by assumption) ?_))))
    | ((with_reducible show wpAny _ _ (setItem (Value.ref _) (Value.int _ _) _) _ _ _); first | (with_reducible ((k_here; k_dflt (refine' td_set (by k_asm) (by k_asm) (by assumption) (by assumption) (by omega) ?_); intro _ _ _ _ _))) | ((k_here; k_dflt (refine' td_set (by k_asm) (by k_asm) (by assumption) (by assumption) (by omega) ?_); intro _ _ _ _ _)))
    | (first | (with_reducible ((k_here; (with_reducible show wpAny _ _ (call (Value.builtin "str.strip") [Value.str _ _, Value.str _ _]) _ _ _); refine SCL.stripChars (hsz := by exact size_le (by assumption)) ?_; intro _ _ _))) | ((k_here; (with_reducible show wpAny _ _ (call (Value.builtin "str.strip") [Value.str _ _, Value.str _ _]) _ _ _); refine SCL.stripChars (hsz := by exact size_le (by assumption)) ?_; intro _ _ _)))
    | (first | (with_reducible ((k_here; (with_reducible show wpAny _ _ (eval (Expr.Call (Expr.Name _ _) _ [] _) _) _ _ _); k_dflt (refine Call_ ?_)))) | ((k_here; (with_reducible show wpAny _ _ (eval (Expr.Call (Expr.Name _ _) _ [] _) _) _ _ _); k_dflt (refine Call_ ?_))))
    | ((with_reducible show wpAny _ _ (call (Value.ref _) _) _ _ _); first | (with_reducible ((k_here; k_dflt ((refine' line_number_spec (by k_asm) (by k_asm) (by k_asm) (by k_asm) (by k_asm) (by rfl) (by first | exact room1 (by with_reducible assumption) (by decide) | ktr_room) (by first | exact units1 (by with_reducible assumption) (by decide) | ktr_units) _ _ (by assumption) (by assumption) ?_; intro _ _ _ _; (try k_fold)))))) | ((k_here; k_dflt ((refine' line_number_spec (by k_asm) (by k_asm) (by k_asm) (by k_asm) (by k_asm) (by rfl) (by first | exact room1 (by with_reducible assumption) (by decide) | ktr_room) (by first | exact units1 (by with_reducible assumption) (by decide) | ktr_units) _ _ (by assumption) (by assumption) ?_; intro _ _ _ _; (try k_fold))))))
    | ((with_reducible show wpAny _ _ (exec _ _) _ _ _); k_here; k_fold; walk1)
    | walk1
    | (dsimp only; walk1)
    | (leave1; walk_say "STEP leave1"; try dsimp only)
    | fail "no step")
  · exact ret0 (by assumption) _ _ (by assumption) (by assumption)
  · exact ret1 (by assumption) _ _ _ (by assumption) (by assumption) (by assumption)
end
end Mine
end

/-! part P11a -/
section
open PySem PySem.W PyProof.Rows PyProof.V
open PySem.Spec PySem.Calls
set_option maxRecDepth 100000
set_option linter.unusedVariables false
namespace Mine
theorem strs_at : ∀ {vs : List Value} {rs : List Str}, StrsAre vs rs → ∀ (i : Nat) (v : Value), vs[i]? = some v → ∃ r t, v = .str r t ∧ rs[i]? = some r
  | _, _, .nil, _, _, h => by simp at h
  | _, _, .cons z t r, 0, v, h => by
    simp only [List.getElem?_cons_zero, Option.some.injEq] at h
    exact ⟨z, t, h.symm, rfl⟩
  | _, _, .cons z t r, i + 1, v, h => by
    rw [List.getElem?_cons_succ] at h
    obtain ⟨r', t', e, k⟩ := strs_at r i v h
    exact ⟨r', t', e, by rw [List.getElem?_cons_succ]; exact k⟩
theorem strs_len : ∀ {vs : List Value} {rs : List Str}, StrsAre vs rs → vs.length = rs.length
  | _, _, .nil => rfl
  | _, _, .cons z t r => by simp only [List.length_cons, strs_len r]
def RowEnd (J : Obj → Prop) (h₀ : Heap) (L : Addr) (m : Str → Option Value) (u : Obj → List (Addr × Obj)) (s : Shared) (f : Flow) (s₂ : Shared) : Prop :=
  f = .next ∧ ∃ o' h' tk', s₂ = { s with heap := h', toks := tk' } ∧ Fr h₀ L h' m ∧ News h₀ L h' (u o') ∧ J o'
section
variable {prog : Program} {w : World} {A : Around} {E : Value → Shared → Prop} {s : Shared} {env : Env} {h₀ : Heap} {x : Str} {body : List Stmt} {Q : Flow → Shared → Prop}
theorem iter_strs {l d : Addr} {vs : List Value} {rs : List Str} {nn : Nat} {m₀ : Str → Option Value} {news : List (Addr × Obj)} {o₀ : Obj} {u : Obj → List (Addr × Obj)} (J : Nat → Obj → Prop)
    (hh : A.handled = none) (hi : StrsAre vs rs) (F : Fr h₀ env.locals s.heap m₀) (N : News h₀ env.locals s.heap ((l, listOf vs.toArray nn) :: news)) (hnl : ∀ q ∈ news, q.1 ≠ l) (U : UpdF d o₀ news u) (hj : J 0 o₀)
    (turn : ∀ i r t o h tk own, rs[i]? = some r → J i o → UpdF d o (u o ++ own) (fun o' => u o' ++ own) → (d, o) ∈ u o ++ own →
      Fr h₀ env.locals h (fun y => if y = x then some (.str r t) else m₀ y) → News h₀ env.locals h (u o ++ own) →
      wpAny (model prog w) A (execs body env) (RowEnd (J (i + 1)) h₀ env.locals (fun y => if y = x then some (.str r t) else m₀ y) (fun o' => u o' ++ own) s) E { s with heap := h, toks := tk })
    (done : ∀ o (q : Str → Option Value) h tk, J rs.length o → Fr h₀ env.locals h (fun y => if y = x then q y else m₀ y) → News h₀ env.locals h (u o) → Q .next { s with heap := h, toks := tk }) :
    wpAny (model prog w) A (pyIter (.ref l)) (fun it s₂ => LoopAtV prog w A h₀ env x body Q E it s₂) E s := by
  have hN : news = u o₀ := upd_self U
  subst hN
  have hz := N _ (.head _)
  have hol : s.heap.get? l = some (listOf vs.toArray nn) := hz.1
  have hls : s.heap.IsList l vs.toArray := ⟨_, hol, rfl, nn, rfl⟩
  have hne : l ≠ s.heap.objs.size := Nat.ne_of_lt (Heap.lt_size hol)
  have N' : News h₀ env.locals s.heap (u o₀) := fun q hq => N q (.tail _ hq)
  refine wpAny_pyIter_list hls ?_
  have W := Walks.list (prog := prog) (w := w) hh s.heap.objs.size l hne vs.toArray
  have hlen : vs.toArray.size = rs.length := by simp [strs_len hi]
  rw [hlen] at W
  refine loop_invN (fun i m nx => ∃ o, nx = u o ∧ J i o ∧ ∀ z, z ≠ x → m z = m₀ z) W ?_ ?_ ?_ ?_ ⟨⟨_, Heap.get?_push_size _ rfl, rfl, rfl⟩, hls.at fun o e => Heap.get?_push_of_some _ e⟩ (F.push _) (fun q hq => ⟨Heap.get?_push_of_some _ (N' q hq).1, (N' q hq).2⟩) ⟨o₀, rfl, hj, fun _ _ => rfl⟩ ?_ ?_
  · intro hm
    rcases List.mem_cons.mp hm with e | hm
    · exact absurd F.ns.lt (e ▸ Nat.lt_irrefl _)
    · exact hz.2.1 ((List.mem_singleton.mp hm).symm)
  · intro b hb
    rw [List.mem_singleton.mp hb]
    exact next_is_new F
  · intro q hq hI
    exact absurd (Heap.lt_size (N' q hq).1) ((List.mem_singleton.mp hI) ▸ Nat.lt_irrefl _)
  · intro q hq hI
    rcases List.mem_cons.mp hI with e | hm
    · exact absurd (Heap.lt_size (N' q hq).1) (e ▸ Nat.lt_irrefl _)
    · exact hnl q hq (List.mem_singleton.mp hm)
  · rintro i v m₁ nx h tk own hin hP hadr hoff ⟨o, rfl, hJ, hm⟩ F₁ N₁
    obtain ⟨r, t, rfl, hr⟩ := strs_at hi i v (by simpa using hP)
    have e : (fun y => if y = x then some (Value.str r t) else m₁ y) = fun y => if y = x then some (Value.str r t) else m₀ y := by
      funext y
      by_cases hy : y = x
      · simp [hy]
      · simp [hy, hm y hy]
    rw [e] at F₁
    have hd : d ∈ (u o₀).map (·.1) := List.mem_map.mpr ⟨_, upd_mem U, rfl⟩
    have U' : UpdF d o (u o ++ own) (fun o' => u o' ++ own) := upd_app (upd_re U) fun p hp => hoff p hp d hd
    refine wpAny_mono (turn i r t o h tk own hr hJ U' (upd_mem U') F₁ N₁) (fun f s₂ q => ?_) fun _ _ e => e
    obtain ⟨rfl, o', h', tk', rfl, F', N'', hJ'⟩ := q
    exact ⟨h', tk', _, u o' ++ own, u o', rfl, F', N'', fun p hp => List.mem_append_left _ hp, fun p hp => List.mem_append_right _ hp, upd_addr U, ⟨o', rfl, hJ', fun z hz => by simp [hz]⟩⟩
  · rintro m₁ nx h tk ⟨o, rfl, hJ, hm⟩ F₁ N₁
    refine done o m₁ h tk hJ ?_ N₁
    have e : (fun y => if y = x then m₁ y else m₀ y) = m₁ := by
      funext y
      by_cases hy : y = x
      · simp [hy]
      · simp [hy, hm y hy]
    rw [e]; exact F₁
end
end Mine
end

/-! part P11 -/
section
open PySem PySem.W PyProof.Rows PyProof.V
open PySem.Spec PySem.Calls
set_option maxRecDepth 100000
set_option linter.unusedVariables false
namespace Mine
theorem fresh_P11 : True := by
  w_top off
  trivial
structure RowFit (r : Str) : Prop where
  len : r.length ≤ 1000
  fig : (pFig r).cps.all isFig = true
  lo : 0 ≤ pNum r
  hi : pNum r ≤ 65529
  rest : (pRest r).length ≤ 1000
  ink : (Txt.stripChars r (Str.ofString " \t\r") != Str.ofString "") = true
structure RowOk (r : Str) : Prop extends RowFit r where
  num : pE r ≠ pB r
  some_ : (Txt.stripChars (pRest r) (Str.ofString " ") != Str.ofString "") = true
def rowsTo (rs : List Str) : Bk := rs.foldl (fun c r => sPut c (pNum r) (Txt.rstripChars (pRest r) (Str.ofString " "))) []
theorem ne_tf {b : Bool} (h : b = true) : b ≠ false := by rw [h]; decide
theorem rowOk_all {rs : List Str} {i : Nat} {r : Str} (ok : ∀ r ∈ rs, RowOk r) (h : rs[i]? = some r) : RowOk r := ok r (List.mem_of_getElem? h)
theorem allLt_mem {d : Addr} : ∀ {l : List (Addr × Obj)}, AllLt d l → ∀ q ∈ l, q.1 < d
  | [], _, _, h => nomatch h
  | _ :: _, x, q, h => by
    rcases List.mem_cons.mp h with rfl | h
    · exact x.1
    · exact allLt_mem x.2 q h
theorem rowsTo_len (rs : List Str) (i : Nat) (h : rs.length < 64) : (rowsTo (rs.take i)).length < 64 := by
  have key : ∀ (l : List Str) (c : Bk), (l.foldl (fun c r => sPut c (pNum r) (Txt.rstripChars (pRest r) (Str.ofString " "))) c).length ≤ c.length + l.length := by
    intro l
    induction l with
    | nil => intro c; exact Nat.le_refl _
    | cons r l ih =>
      intro c
      show (List.foldl _ (sPut c (pNum r) (Txt.rstripChars (pRest r) (Str.ofString " "))) l).length ≤ _
      refine Nat.le_trans (ih _) ?_
      have := sPut_len c (pNum r) (Txt.rstripChars (pRest r) (Str.ofString " "))
      rw [List.length_cons]; omega
  have := key (rs.take i) []
  unfold rowsTo
  rw [List.length_take] at this
  simp only [List.length_nil] at this
  omega
theorem rowsTo_snoc {rs : List Str} {i : Nat} {r : Str} (h : rs[i]? = some r) : rowsTo (rs.take (i + 1)) = sPut (rowsTo (rs.take i)) (pNum r) (Txt.rstripChars (pRest r) (Str.ofString " ")) := by
  unfold rowsTo
  rw [List.take_add_one, h, List.foldl_append]
  rfl
theorem rows_lt {D d : Addr} {news : List (Addr × Obj)} (h : D < d ∧ AllLt d news) : ∀ q ∈ news, q.1 < d := allLt_mem h.2
theorem rows_td {prog : Program} {w : World} {o : Obj} {rs : List Str} {i : Nat} {r : Str} (h : rs[i]? = some r) (T : TDict prog w o (sPut (rowsTo (rs.take i)) (pNum r) (Txt.rstripChars (pRest r) (Str.ofString " ")))) : TDict prog w o (rowsTo (rs.take (i + 1))) := by
  rw [rowsTo_snoc h]; exact T
section
variable {prog : Program} {w : World} {A : Around} {E : Value → Shared → Prop} {s : Shared} {env : Env} {h₀ : Heap} {x : Str} {body : List Stmt} {Q : Flow → Shared → Prop}
theorem rows_iter {D d : Addr} {vs : List Value} {rs : List Str} {m₀ : Str → Option Value} {news : List (Addr × Obj)} {o : Obj}
    (hh : A.handled = none) (hi : StrsAre vs rs) (F : Fr h₀ env.locals s.heap m₀) (N : News h₀ env.locals s.heap ((d, o) :: (D, LCg.lst vs) :: news)) (l1 : D < d ∧ AllLt d news) (hnl : ∀ q ∈ news, q.1 ≠ D) (hd : o.IsDictOf (intKind prog w) []) (h64 : rs.length < 64)
    (turn : ∀ i r t o h tk own, rs[i]? = some r → TDict prog w o (rowsTo (rs.take i)) → (rowsTo (rs.take i)).length < 64 → UpdF d o ((d, o) :: news ++ own) (fun o' => (d, o') :: news ++ own) → (d, o) ∈ (d, o) :: news ++ own →
      Fr h₀ env.locals h (fun y => if y = x then some (.str r t) else m₀ y) → News h₀ env.locals h ((d, o) :: news ++ own) →
      wpAny (model prog w) A (execs body env) (RowEnd (fun o' => TDict prog w o' (rowsTo (rs.take (i + 1)))) h₀ env.locals (fun y => if y = x then some (.str r t) else m₀ y) (fun o' => (d, o') :: news ++ own) s) E { s with heap := h, toks := tk })
    (done : ∀ o (q : Str → Option Value) h tk, TDict prog w o (rowsTo rs) → Fr h₀ env.locals h (fun y => if y = x then q y else m₀ y) → News h₀ env.locals h ((d, o) :: news) → Q .next { s with heap := h, toks := tk }) :
    wpAny (model prog w) A (pyIter (.ref D)) (fun it s₂ => LoopAtV prog w A h₀ env x body Q E it s₂) E s := by
  have hnd : ∀ q ∈ news, q.1 ≠ d := fun q hq => Nat.ne_of_lt (allLt_mem l1.2 q hq)
  refine iter_strs (nn := vs.length) (fun i o => TDict prog w o (rowsTo (rs.take i))) hh hi F (news := (d, o) :: news) (fun q hq => N q ?_) ?_ (.head hnd) (td_empty hd) (fun i r t o h tk own hr hJ U hm F N => turn i r t o h tk own hr hJ (rowsTo_len rs i h64) U hm F N) (fun o q h tk hJ F N => done o q h tk (by rw [List.take_length] at hJ; exact hJ) F N)
  · rcases List.mem_cons.mp hq with rfl | hq
    · exact .tail _ (.head _)
    · rcases List.mem_cons.mp hq with rfl | hq
      · exact .head _
      · exact .tail _ (.tail _ hq)
  · intro q hq
    rcases List.mem_cons.mp hq with rfl | hq
    · exact Ne.symm (Nat.ne_of_lt l1.1)
    · exact hnl q hq
end
section
variable {w : World} {p : Program} {loose : List Str} {mean : ExcName → Option Value} {mg mb : Str → Option Value} {dp un : Nat} {gd : Option (List Code)} {cn : Str} {cs : Scope} {a : Addr} {ccd : Value} {cl : List (Str × Addr)} {outer : List Env} {A₀ : Around} {base h₀ : Heap} {L : Addr} {m : Str → Option Value} {news : List (Addr × Obj)} {s : Shared}
    {Q E : Value → Shared → Prop}
local macro_rules | `(tactic| k_mem) => `(tactic| first | (with_reducible assumption) | exact List.mem_cons_self | (refine List.mem_cons_of_mem _ ?_; k_mem))
set_option maxHeartbeats 8000000 in
theorem program_of_rows_spec (B : Below A₀ base outer h₀) (F : Fr h₀ L s.heap m) (X : (hd.heap_39 w.params).In h₀) (T : Top p loose mean mg mb h₀) (hk : cs.kind = .function) (hd : dp + 60 < recursionLimit) (hu : un + 600 < cLine)
   (D : Addr) (vs : List Value) (rs : List Str) (N : News h₀ L s.heap ((D, LCg.lst vs) :: news)) (hnl : ∀ q ∈ news, q.1 ≠ D) (hi : StrsAre vs rs) (h64 : rs.length < 64) (ok : ∀ r ∈ rs, RowOk r)
   (ret : ∀ d o h' tk', Fr h₀ L h' m → News h₀ L h' ((d, o) :: news) → (∀ q ∈ news, q.1 < d) → (d == sysModules) = false → TDict PR w o (rowsTo rs) → Q (.ref d) { s with heap := h', toks := tk' }) :
   wpAny (model PySem.Challenge.rw_pc0001_01.row.prog w) (ktrTop dp un gd cn cs L a ccd cl outer) (call (.ref 103) [.ref D]) Q E s := by
  revert X; k_fill; intro X
  refine wpAny_call ?_
  k_dflt ktr_enter
  k_with_none
  repeat' (first
    | (k_unfold; (try dsimp only))
    | (k_end; wrow_close)
    | ((with_reducible show wpAny _ _ (call (Value.ref _) _) _ _ _); first | (with_reducible ((k_here; k_dflt ((refine' enter_row_spec (by k_asm) (by k_asm) (by k_asm) (by k_asm) (by k_asm) (by rfl) (by first | exact room1 (by with_reducible assumption) (by decide) | ktr_room) (by first | exact units1 (by with_reducible assumption) (by decide) | ktr_units) _ _ _ _ (by with_reducible assumption) (by with_reducible assumption) (by with_reducible assumption) (by with_reducible assumption) (by with_reducible assumption) _ _ (by with_reducible assumption) (by with_reducible assumption) (by with_reducible assumption) (by with_reducible assumption) (by with_reducible assumption) (by intro hE; exact absurd hE (by with_reducible assumption)) ?_ (by intro _ hE; exact absurd hE (ne_tf (by with_reducible assumption))) (by intro _ hE; exact absurd hE (ne_tf (by with_reducible assumption))); intro _ _ _ _ _ _ _ _; (try k_fold)))))) | ((k_here; k_dflt ((refine' enter_row_spec (by k_asm) (by k_asm) (by k_asm) (by k_asm) (by k_asm) (by rfl) (by first | exact room1 (by with_reducible assumption) (by decide) | ktr_room) (by first | exact units1 (by with_reducible assumption) (by decide) | ktr_units) _ _ _ _ (by with_reducible assumption) (by with_reducible assumption) (by with_reducible assumption) (by with_reducible assumption) (by with_reducible assumption) _ _ (by with_reducible assumption) (by with_reducible assumption) (by with_reducible assumption) (by with_reducible assumption) (by with_reducible assumption) (by intro hE; exact absurd hE (by with_reducible assumption)) ?_ (by intro _ hE; exact absurd hE (ne_tf (by with_reducible assumption))) (by intro _ hE; exact absurd hE (ne_tf (by with_reducible assumption))); intro _ _ _ _ _ _ _ _; (try k_fold))))))
    | ((with_reducible show wpAny _ _ (pyIter (Value.ref _)) _ _ _); first | (with_reducible ((k_here; k_dflt (refine' (fun hh F N hi l nl d h dn tu => rows_iter hh hi F N l nl d h tu dn) (by rfl) (by k_asm) (by k_asm) (by assumption) (by assumption) (by assumption) (by assumption) (by assumption) ?_ ?_; (focus (intro o' _ h' tk' T' F' N')); rotate_left; (focus (intro _ _ _ _ _ _ _ hr' _ _ _ _ _ _; (obtain ⟨⟨q1, q2, q3, q4, q5, q6⟩, q7, q8⟩ := rowOk_all (by assumption) hr'))); rotate_left)))) | ((k_here; k_dflt (refine' (fun hh F N hi l nl d h dn tu => rows_iter hh hi F N l nl d h tu dn) (by rfl) (by k_asm) (by k_asm) (by assumption) (by assumption) (by assumption) (by assumption) (by assumption) ?_ ?_; (focus (intro o' _ h' tk' T' F' N')); rotate_left; (focus (intro _ _ _ _ _ _ _ hr' _ _ _ _ _ _; (obtain ⟨⟨q1, q2, q3, q4, q5, q6⟩, q7, q8⟩ := rowOk_all (by assumption) hr'))); rotate_left))))
    | ((with_reducible show wpAny _ _ (exec (Stmt.For _ _ _ _ _) _) _ _ _); first | (with_reducible ((k_here; (rename Fr _ _ _ _ => lF'); (with_unfolding_all refine' For_invVF lF' ?k1 ?k2 ?_; (case k1 => exact rfl); (case k2 => exact rfl); k_whole)))) | ((k_here; (rename Fr _ _ _ _ => lF'); (with_unfolding_all refine' For_invVF lF' ?k1 ?k2 ?_; (case k1 => exact rfl); (case k2 => exact rfl); k_whole))))
    | (first | (with_reducible ((k_here; (with_reducible show wpAny _ _ (call (Value.builtin "str.strip") [Value.str _ _, Value.str _ _]) _ _ _); refine SCL.stripChars (hsz := by exact size_le (by assumption)) ?_; intro _ _ _))) | ((k_here; (with_reducible show wpAny _ _ (call (Value.builtin "str.strip") [Value.str _ _, Value.str _ _]) _ _ _); refine SCL.stripChars (hsz := by exact size_le (by assumption)) ?_; intro _ _ _)))
    | (first | (with_reducible ((k_here; (with_reducible show wpAny _ _ (eval (Expr.Call (Expr.Name _ _) _ [] _) _) _ _ _); k_dflt (refine Call_ ?_)))) | ((k_here; (with_reducible show wpAny _ _ (eval (Expr.Call (Expr.Name _ _) _ [] _) _) _ _ _); k_dflt (refine Call_ ?_))))
    | ((with_reducible show wpAny _ _ (leaving _ _) _ _ _); first | (with_reducible ((k_here; k_dflt ((refine' leave_raiseD (by k_asm) (by k_asm) (by k_asm) (by assumption) (by assumption) (by exact hne_cons (by assumption) (by assumption)) (by rfl) ?_; intro _ _ _))))) | ((k_here; k_dflt ((refine' leave_raiseD (by k_asm) (by k_asm) (by k_asm) (by assumption) (by assumption) (by exact hne_cons (by assumption) (by assumption)) (by rfl) ?_; intro _ _ _)))))
    | ((with_reducible show wpAny _ _ (exec (Stmt.Raise (some _) none _) _) _ _ _); first | (with_reducible ((k_here; k_dflt (refine' exec_raise34 (by k_asm) (by rfl) ?_)))) | ((k_here; k_dflt (refine' exec_raise34 (by k_asm) (by rfl) ?_))))
    | ((with_reducible show wpAny _ _ (exec _ _) _ _ _); k_here; k_fold; walk1)
    | walk1
    | (dsimp only; walk1)
    | (leave1; walk_say "STEP leave1"; try dsimp only)
    | fail "no step")
  · exact ret _ _ _ _ (by assumption) (by assumption) (rows_lt (by assumption)) (by assumption) (by assumption)
  · exact ⟨rfl, _, _, _, rfl, by assumption, by assumption, rows_td (by assumption) (by assumption)⟩
end
end Mine
end

/-! part P12 -/
section
open PySem PySem.W PyProof.Rows PyProof.V
open PySem.Spec PySem.Calls
set_option maxRecDepth 100000
set_option linter.unusedVariables false
namespace Mine
structure RowBad (r : Str) : Prop extends RowFit r where
  direct : pE r = pB r
theorem sub_end {p q : Addr × Obj} {news own : List (Addr × Obj)} : ∀ r ∈ p :: news, r ∈ p :: (q :: news ++ own) := fun r hr => by
  rcases List.mem_cons.mp hr with rfl | hr
  · exact .head _
  · exact .tail _ (.tail _ (List.mem_append_left _ hr))
theorem row_split {rs : List Str} {b : Str} {i : Nat} {r : Str} (ok : ∀ r ∈ rs, RowOk r) (h : (rs ++ [b])[i]? = some r) (hi : i ≤ rs.length) : (i < rs.length ∧ RowOk r) ∨ r = b := by
  by_cases hl : i < rs.length
  · rw [List.getElem?_append_left hl] at h
    exact .inl ⟨hl, ok _ (List.mem_of_getElem? h)⟩
  · have e : i = rs.length := by omega
    subst e
    rw [List.getElem?_append_right (Nat.le_refl _)] at h
    simp at h
    exact .inr h.symm
end Mine
end

/-! part P12n -/
section
open PySem PySem.W PyProof.Rows PyProof.V
open PySem.Spec PySem.Calls
set_option maxRecDepth 100000
set_option linter.unusedVariables false
namespace Mine
theorem fresh_P12n : True := by
  w_top off
  trivial
section
variable {prog : Program} {w : World} {A : Around} {E : Value → Shared → Prop} {s : Shared} {env : Env} {h₀ : Heap} {x : Str} {body : List Stmt} {Q : Flow → Shared → Prop}
theorem rows_iterBn {nn : Nat} {D d : Addr} {vs : List Value} {rs : List Str} {b : Str} {m₀ : Str → Option Value} {news : List (Addr × Obj)} {o : Obj}
    (hh : A.handled = none) (hi : StrsAre vs (rs ++ [b])) (F : Fr h₀ env.locals s.heap m₀) (N : News h₀ env.locals s.heap ((d, o) :: (D, listOf vs.toArray nn) :: news)) (l1 : D < d ∧ AllLt d news) (hnl : ∀ q ∈ news, q.1 ≠ D) (hd : o.IsDictOf (intKind prog w) []) (h64 : (rs ++ [b]).length < 64)
    (turn : ∀ i r t o h tk own, (rs ++ [b])[i]? = some r → i ≤ rs.length → TDict prog w o (rowsTo ((rs ++ [b]).take i)) → (rowsTo ((rs ++ [b]).take i)).length < 64 → UpdF d o ((d, o) :: news ++ own) (fun o' => (d, o') :: news ++ own) → (d, o) ∈ (d, o) :: news ++ own →
      Fr h₀ env.locals h (fun y => if y = x then some (.str r t) else m₀ y) → News h₀ env.locals h ((d, o) :: news ++ own) →
      wpAny (model prog w) A (execs body env) (RowEnd (fun o' => i + 1 ≤ rs.length ∧ TDict prog w o' (rowsTo ((rs ++ [b]).take (i + 1)))) h₀ env.locals (fun y => if y = x then some (.str r t) else m₀ y) (fun o' => (d, o') :: news ++ own) s) E { s with heap := h, toks := tk }) :
    wpAny (model prog w) A (pyIter (.ref D)) (fun it s₂ => LoopAtV prog w A h₀ env x body Q E it s₂) E s := by
  have hnd : ∀ q ∈ news, q.1 ≠ d := fun q hq => Nat.ne_of_lt (allLt_mem l1.2 q hq)
  refine iter_strs (nn := nn) (fun i o => i ≤ rs.length ∧ TDict prog w o (rowsTo ((rs ++ [b]).take i))) hh hi F (news := (d, o) :: news) (fun q hq => N q ?_) ?_ (.head hnd) ⟨Nat.zero_le _, td_empty hd⟩ (fun i r t o h tk own hr hJ U hm F N => turn i r t o h tk own hr hJ.1 hJ.2 (rowsTo_len _ i h64) U hm F N) (fun o q h tk hJ F N => ?_)
  · rcases List.mem_cons.mp hq with rfl | hq
    · exact .tail _ (.head _)
    · rcases List.mem_cons.mp hq with rfl | hq
      · exact .head _
      · exact .tail _ (.tail _ hq)
  · intro q hq
    rcases List.mem_cons.mp hq with rfl | hq
    · exact Ne.symm (Nat.ne_of_lt l1.1)
    · exact hnl q hq
  · have h1 : (rs ++ [b]).length ≤ rs.length := hJ.1
    rw [List.length_append, List.length_singleton] at h1
    omega
end
section
variable {w : World} {p : Program} {loose : List Str} {mean : ExcName → Option Value} {mg mb : Str → Option Value} {dp un : Nat} {gd : Option (List Code)} {cn : Str} {cs : Scope} {a : Addr} {ccd : Value} {cl : List (Str × Addr)} {outer : List Env} {A₀ : Around} {base h₀ : Heap} {L : Addr} {m : Str → Option Value} {news : List (Addr × Obj)} {s : Shared}
    {Q E : Value → Shared → Prop}
local macro_rules | `(tactic| k_mem) => `(tactic| first | (with_reducible assumption) | exact List.mem_cons_self | (refine List.mem_cons_of_mem _ ?_; k_mem))
set_option maxHeartbeats 8000000 in
theorem program_of_rows_raiseN (B : Below A₀ base outer h₀) (F : Fr h₀ L s.heap m) (X : (hd.heap_39 w.params).In h₀) (T : Top p loose mean mg mb h₀) (hk : cs.kind = .function) (hd : dp + 60 < recursionLimit) (hu : un + 600 < cLine)
   (D : Addr) (vs : List Value) (nn : Nat) (rs : List Str) (b : Str) (N : News h₀ L s.heap ((D, listOf vs.toArray nn) :: news)) (hnl : ∀ q ∈ news, q.1 ≠ D) (hi : StrsAre vs (rs ++ [b])) (h64 : (rs ++ [b]).length < 64) (ok : ∀ r ∈ rs, RowOk r) (bad : RowBad b)
   (err : RaiseTo base h₀ L m (envX cn cs L a ccd cl :: outer) news "SN" E s) :
   wpAny (model PySem.Challenge.rw_pc0001_01.row.prog w) (ktrTop dp un gd cn cs L a ccd cl outer) (call (.ref 103) [.ref D]) Q E s := by
  revert X; k_fill; intro X
  refine wpAny_call ?_
  k_dflt ktr_enter
  k_with_none
  repeat' (first
    | (k_unfold; (try dsimp only))
    | (k_end; wrow_close)
    | ((with_reducible show wpAny _ _ (call (Value.ref _) _) _ _ _); first | (with_reducible ((k_here; k_dflt (first | (refine' call_basic (by k_asm) (by k_asm) (by k_asm) (by k_asm) (by k_asm) (by rfl) (by first | exact room1 (by with_reducible assumption) (by decide) | ktr_room) (by first | exact units1 (by with_reducible assumption) (by decide) | ktr_units) _ _ _ ?_; intro _ _ _ _ _ _ F' _ he' _ _ _ _ _; refine' ⟨_, _, _, rfl, Frag.In.keeps (by k_asm) (Fr.keep F'), he', ?_⟩; (try dsimp only)) | (refine' enter_row_spec (by k_asm) (by k_asm) (by k_asm) (by k_asm) (by k_asm) (by rfl) (by first | exact room1 (by with_reducible assumption) (by decide) | ktr_room) (by first | exact units1 (by with_reducible assumption) (by decide) | ktr_units) _ _ _ _ (by with_reducible assumption) (by with_reducible assumption) (by with_reducible assumption) (by with_reducible assumption) (by with_reducible assumption) _ _ (by with_reducible assumption) (by with_reducible assumption) (by with_reducible assumption) (by with_reducible assumption) (by with_reducible assumption) (by intro hE; exact absurd hE (by with_reducible assumption)) ?_ (by intro _ hE; exact absurd hE (ne_tf (by with_reducible assumption))) (by intro _ hE; exact absurd hE (ne_tf (by with_reducible assumption))); intro _ _ _ _ _ _ _ _; (try k_fold)))))) | ((k_here; k_dflt (first | (refine' call_basic (by k_asm) (by k_asm) (by k_asm) (by k_asm) (by k_asm) (by rfl) (by first | exact room1 (by with_reducible assumption) (by decide) | ktr_room) (by first | exact units1 (by with_reducible assumption) (by decide) | ktr_units) _ _ _ ?_; intro _ _ _ _ _ _ F' _ he' _ _ _ _ _; refine' ⟨_, _, _, rfl, Frag.In.keeps (by k_asm) (Fr.keep F'), he', ?_⟩; (try dsimp only)) | (refine' enter_row_spec (by k_asm) (by k_asm) (by k_asm) (by k_asm) (by k_asm) (by rfl) (by first | exact room1 (by with_reducible assumption) (by decide) | ktr_room) (by first | exact units1 (by with_reducible assumption) (by decide) | ktr_units) _ _ _ _ (by with_reducible assumption) (by with_reducible assumption) (by with_reducible assumption) (by with_reducible assumption) (by with_reducible assumption) _ _ (by with_reducible assumption) (by with_reducible assumption) (by with_reducible assumption) (by with_reducible assumption) (by with_reducible assumption) (by intro hE; exact absurd hE (by with_reducible assumption)) ?_ (by intro _ hE; exact absurd hE (ne_tf (by with_reducible assumption))) (by intro _ hE; exact absurd hE (ne_tf (by with_reducible assumption))); intro _ _ _ _ _ _ _ _; (try k_fold))))))
    | ((with_reducible show wpAny _ _ (exec (Stmt.For _ _ _ _ _) _) _ _ _); first | (with_reducible ((k_here; (rename Fr _ _ _ _ => lF'); (with_unfolding_all refine' For_invVF lF' ?k1 ?k2 ?_; (case k1 => exact rfl); (case k2 => exact rfl); k_whole)))) | ((k_here; (rename Fr _ _ _ _ => lF'); (with_unfolding_all refine' For_invVF lF' ?k1 ?k2 ?_; (case k1 => exact rfl); (case k2 => exact rfl); k_whole))))
    | ((with_reducible show wpAny _ _ (exec (Stmt.For _ _ _ _ _) _) _ _ _); first | (with_reducible ((k_here; (rename Fr _ _ _ _ => lF'); (with_unfolding_all refine' For_invVF lF' ?k1 ?k2 ?_; (case k1 => exact rfl); (case k2 => exact rfl); k_whole)))) | ((k_here; (rename Fr _ _ _ _ => lF'); (with_unfolding_all refine' For_invVF lF' ?k1 ?k2 ?_; (case k1 => exact rfl); (case k2 => exact rfl); k_whole))))
    | (first | (with_reducible ((k_here; (with_reducible show wpAny _ _ (call (Value.builtin "str.strip") [Value.str _ _, Value.str _ _]) _ _ _); refine SCL.stripChars (hsz := by exact size_le (by assumption)) ?_; intro _ _ _))) | ((k_here; (with_reducible show wpAny _ _ (call (Value.builtin "str.strip") [Value.str _ _, Value.str _ _]) _ _ _); refine SCL.stripChars (hsz := by exact size_le (by assumption)) ?_; intro _ _ _)))
    | (first | (with_reducible ((k_here; (with_reducible show wpAny _ _ (eval (Expr.Call (Expr.Name _ _) _ [] _) _) _ _ _); k_dflt (refine Call_ ?_)))) | ((k_here; (with_reducible show wpAny _ _ (eval (Expr.Call (Expr.Name _ _) _ [] _) _) _ _ _); k_dflt (refine Call_ ?_))))
    | ((with_reducible show wpAny _ _ (leaving _ _) _ _ _); first | (with_reducible ((k_here; k_dflt ((refine' leave_raiseD (by k_asm) (by k_asm) (by k_asm) (by assumption) (by assumption) (by exact hne_cons (by assumption) (by assumption)) (by rfl) ?_; intro _ _ _))))) | ((k_here; k_dflt ((refine' leave_raiseD (by k_asm) (by k_asm) (by k_asm) (by assumption) (by assumption) (by exact hne_cons (by assumption) (by assumption)) (by rfl) ?_; intro _ _ _)))))
    | ((with_reducible show wpAny _ _ (exec (Stmt.Raise (some _) none _) _) _ _ _); first | (with_reducible ((k_here; k_dflt (refine' exec_raise34 (by k_asm) (by rfl) ?_)))) | ((k_here; k_dflt (refine' exec_raise34 (by k_asm) (by rfl) ?_))))
    | ((with_reducible show wpAny _ _ (exec _ _) _ _ _); k_here; k_fold; walk1)
    | walk1
    | (dsimp only; walk1)
    | (leave1; walk_say "STEP leave1"; try dsimp only)
    | fail "no step")
  refine' rows_iterBn ?hh ?hi ?F ?N ?l ?nl ?d ?h ?tu
  case hh => rfl
  case F => k_asm
  case N => k_asm
  case hi => assumption
  case l => assumption
  case nl => assumption
  case d => assumption
  case h => assumption
  intro i' r' t' o' h' tk' own' hr' hle' T' hc' U' hm' F' N'
  rcases row_split ok hr' hle' with ⟨hlt, ⟨⟨q1, q2, q3, q4, q5, q6⟩, q7, q8⟩⟩ | hb
  · repeat' (first
      | (k_unfold; (try dsimp only))
      | (k_end; wrow_close)
      | ((with_reducible show wpAny _ _ (call (Value.ref _) _) _ _ _); first | (with_reducible ((k_here; k_dflt (first | (refine' call_basic (by k_asm) (by k_asm) (by k_asm) (by k_asm) (by k_asm) (by rfl) (by first | exact room1 (by with_reducible assumption) (by decide) | ktr_room) (by first | exact units1 (by with_reducible assumption) (by decide) | ktr_units) _ _ _ ?_; intro _ _ _ _ _ _ F' _ he' _ _ _ _ _; refine' ⟨_, _, _, rfl, Frag.In.keeps (by k_asm) (Fr.keep F'), he', ?_⟩; (try dsimp only)) | (refine' enter_row_spec (by k_asm) (by k_asm) (by k_asm) (by k_asm) (by k_asm) (by rfl) (by first | exact room1 (by with_reducible assumption) (by decide) | ktr_room) (by first | exact units1 (by with_reducible assumption) (by decide) | ktr_units) _ _ _ _ (by with_reducible assumption) (by with_reducible assumption) (by with_reducible assumption) (by with_reducible assumption) (by with_reducible assumption) _ _ (by with_reducible assumption) (by with_reducible assumption) (by with_reducible assumption) (by with_reducible assumption) (by with_reducible assumption) (by intro hE; exact absurd hE (by with_reducible assumption)) ?_ (by intro _ hE; exact absurd hE (ne_tf (by with_reducible assumption))) (by intro _ hE; exact absurd hE (ne_tf (by with_reducible assumption))); intro _ _ _ _ _ _ _ _; (try k_fold)))))) | ((k_here; k_dflt (first | (refine' call_basic (by k_asm) (by k_asm) (by k_asm) (by k_asm) (by k_asm) (by rfl) (by first | exact room1 (by with_reducible assumption) (by decide) | ktr_room) (by first | exact units1 (by with_reducible assumption) (by decide) | ktr_units) _ _ _ ?_; intro _ _ _ _ _ _ F' _ he' _ _ _ _ _; refine' ⟨_, _, _, rfl, Frag.In.keeps (by k_asm) (Fr.keep F'), he', ?_⟩; (try dsimp only)) | (refine' enter_row_spec (by k_asm) (by k_asm) (by k_asm) (by k_asm) (by k_asm) (by rfl) (by first | exact room1 (by with_reducible assumption) (by decide) | ktr_room) (by first | exact units1 (by with_reducible assumption) (by decide) | ktr_units) _ _ _ _ (by with_reducible assumption) (by with_reducible assumption) (by with_reducible assumption) (by with_reducible assumption) (by with_reducible assumption) _ _ (by with_reducible assumption) (by with_reducible assumption) (by with_reducible assumption) (by with_reducible assumption) (by with_reducible assumption) (by intro hE; exact absurd hE (by with_reducible assumption)) ?_ (by intro _ hE; exact absurd hE (ne_tf (by with_reducible assumption))) (by intro _ hE; exact absurd hE (ne_tf (by with_reducible assumption))); intro _ _ _ _ _ _ _ _; (try k_fold))))))
      | ((with_reducible show wpAny _ _ (exec (Stmt.For _ _ _ _ _) _) _ _ _); first | (with_reducible ((k_here; (rename Fr _ _ _ _ => lF'); (with_unfolding_all refine' For_invVF lF' ?k1 ?k2 ?_; (case k1 => exact rfl); (case k2 => exact rfl); k_whole)))) | ((k_here; (rename Fr _ _ _ _ => lF'); (with_unfolding_all refine' For_invVF lF' ?k1 ?k2 ?_; (case k1 => exact rfl); (case k2 => exact rfl); k_whole))))
      | ((with_reducible show wpAny _ _ (exec (Stmt.For _ _ _ _ _) _) _ _ _); first | (with_reducible ((k_here; (rename Fr _ _ _ _ => lF'); (with_unfolding_all refine' For_invVF lF' ?k1 ?k2 ?_; (case k1 => exact rfl); (case k2 => exact rfl); k_whole)))) | ((k_here; (rename Fr _ _ _ _ => lF'); (with_unfolding_all refine' For_invVF lF' ?k1 ?k2 ?_; (case k1 => exact rfl); (case k2 => exact rfl); k_whole))))
      | (first | (with_reducible ((k_here; (with_reducible show wpAny _ _ (call (Value.builtin "str.strip") [Value.str _ _, Value.str _ _]) _ _ _); refine SCL.stripChars (hsz := by exact size_le (by assumption)) ?_; intro _ _ _))) | ((k_here; (with_reducible show wpAny _ _ (call (Value.builtin "str.strip") [Value.str _ _, Value.str _ _]) _ _ _); refine SCL.stripChars (hsz := by exact size_le (by assumption)) ?_; intro _ _ _)))
      | (first | (with_reducible ((k_here; (with_reducible show wpAny _ _ (eval (Expr.Call (Expr.Name _ _) _ [] _) _) _ _ _); k_dflt (refine Call_ ?_)))) | ((k_here; (with_reducible show wpAny _ _ (eval (Expr.Call (Expr.Name _ _) _ [] _) _) _ _ _); k_dflt (refine Call_ ?_))))
      | ((with_reducible show wpAny _ _ (leaving _ _) _ _ _); first | (with_reducible ((k_here; k_dflt ((refine' leave_raiseD (by k_asm) (by k_asm) (by k_asm) (by assumption) (by assumption) (by exact hne_cons (by assumption) (by assumption)) (by rfl) ?_; intro _ _ _))))) | ((k_here; k_dflt ((refine' leave_raiseD (by k_asm) (by k_asm) (by k_asm) (by assumption) (by assumption) (by exact hne_cons (by assumption) (by assumption)) (by rfl) ?_; intro _ _ _)))))
      | ((with_reducible show wpAny _ _ (exec (Stmt.Raise (some _) none _) _) _ _ _); first | (with_reducible ((k_here; k_dflt (refine' exec_raise34 (by k_asm) (by rfl) ?_)))) | ((k_here; k_dflt (refine' exec_raise34 (by k_asm) (by rfl) ?_))))
      | ((with_reducible show wpAny _ _ (exec _ _) _ _ _); k_here; k_fold; walk1)
      | walk1
      | (dsimp only; walk1)
      | (leave1; walk_say "STEP leave1"; try dsimp only)
      | fail "no step")
    exact ⟨rfl, _, _, _, rfl, by assumption, by assumption, hlt, rows_td hr' (by assumption)⟩
  · subst hb
    obtain ⟨⟨q1, q2, q3, q4, q5, q6⟩, q7⟩ := bad
    repeat' (first
      | (k_unfold; (try dsimp only))
      | (k_end; wrow_close)
      | ((with_reducible show wpAny _ _ (call (Value.ref _) _) _ _ _); first | (with_reducible ((k_here; k_dflt (first | (refine' call_basic (by k_asm) (by k_asm) (by k_asm) (by k_asm) (by k_asm) (by rfl) (by first | exact room1 (by with_reducible assumption) (by decide) | ktr_room) (by first | exact units1 (by with_reducible assumption) (by decide) | ktr_units) _ _ _ ?_; intro _ _ _ _ _ _ F' _ he' _ _ _ _ _; refine' ⟨_, _, _, rfl, Frag.In.keeps (by k_asm) (Fr.keep F'), he', ?_⟩; (try dsimp only)) | (refine' enter_row_spec (by k_asm) (by k_asm) (by k_asm) (by k_asm) (by k_asm) (by rfl) (by first | exact room1 (by with_reducible assumption) (by decide) | ktr_room) (by first | exact units1 (by with_reducible assumption) (by decide) | ktr_units) _ _ _ _ (by with_reducible assumption) (by with_reducible assumption) (by with_reducible assumption) (by with_reducible assumption) (by with_reducible assumption) _ _ (by with_reducible assumption) (by with_reducible assumption) (by with_reducible assumption) (by with_reducible assumption) (by with_reducible assumption) (by intro hE; exact absurd hE (by with_reducible assumption)) ?_ (by intro _ hE; exact absurd hE (ne_tf (by with_reducible assumption))) (by intro _ hE; exact absurd hE (ne_tf (by with_reducible assumption))); intro _ _ _ _ _ _ _ _; (try k_fold)))))) | ((k_here; k_dflt (first | (refine' call_basic (by k_asm) (by k_asm) (by k_asm) (by k_asm) (by k_asm) (by rfl) (by first | exact room1 (by with_reducible assumption) (by decide) | ktr_room) (by first | exact units1 (by with_reducible assumption) (by decide) | ktr_units) _ _ _ ?_; intro _ _ _ _ _ _ F' _ he' _ _ _ _ _; refine' ⟨_, _, _, rfl, Frag.In.keeps (by k_asm) (Fr.keep F'), he', ?_⟩; (try dsimp only)) | (refine' enter_row_spec (by k_asm) (by k_asm) (by k_asm) (by k_asm) (by k_asm) (by rfl) (by first | exact room1 (by with_reducible assumption) (by decide) | ktr_room) (by first | exact units1 (by with_reducible assumption) (by decide) | ktr_units) _ _ _ _ (by with_reducible assumption) (by with_reducible assumption) (by with_reducible assumption) (by with_reducible assumption) (by with_reducible assumption) _ _ (by with_reducible assumption) (by with_reducible assumption) (by with_reducible assumption) (by with_reducible assumption) (by with_reducible assumption) (by intro hE; exact absurd hE (by with_reducible assumption)) ?_ (by intro _ hE; exact absurd hE (ne_tf (by with_reducible assumption))) (by intro _ hE; exact absurd hE (ne_tf (by with_reducible assumption))); intro _ _ _ _ _ _ _ _; (try k_fold))))))
      | ((with_reducible show wpAny _ _ (exec (Stmt.For _ _ _ _ _) _) _ _ _); first | (with_reducible ((k_here; (rename Fr _ _ _ _ => lF'); (with_unfolding_all refine' For_invVF lF' ?k1 ?k2 ?_; (case k1 => exact rfl); (case k2 => exact rfl); k_whole)))) | ((k_here; (rename Fr _ _ _ _ => lF'); (with_unfolding_all refine' For_invVF lF' ?k1 ?k2 ?_; (case k1 => exact rfl); (case k2 => exact rfl); k_whole))))
      | ((with_reducible show wpAny _ _ (exec (Stmt.For _ _ _ _ _) _) _ _ _); first | (with_reducible ((k_here; (rename Fr _ _ _ _ => lF'); (with_unfolding_all refine' For_invVF lF' ?k1 ?k2 ?_; (case k1 => exact rfl); (case k2 => exact rfl); k_whole)))) | ((k_here; (rename Fr _ _ _ _ => lF'); (with_unfolding_all refine' For_invVF lF' ?k1 ?k2 ?_; (case k1 => exact rfl); (case k2 => exact rfl); k_whole))))
      | (first | (with_reducible ((k_here; (with_reducible show wpAny _ _ (call (Value.builtin "str.strip") [Value.str _ _, Value.str _ _]) _ _ _); refine SCL.stripChars (hsz := by exact size_le (by assumption)) ?_; intro _ _ _))) | ((k_here; (with_reducible show wpAny _ _ (call (Value.builtin "str.strip") [Value.str _ _, Value.str _ _]) _ _ _); refine SCL.stripChars (hsz := by exact size_le (by assumption)) ?_; intro _ _ _)))
      | (first | (with_reducible ((k_here; (with_reducible show wpAny _ _ (eval (Expr.Call (Expr.Name _ _) _ [] _) _) _ _ _); k_dflt (refine Call_ ?_)))) | ((k_here; (with_reducible show wpAny _ _ (eval (Expr.Call (Expr.Name _ _) _ [] _) _) _ _ _); k_dflt (refine Call_ ?_))))
      | ((with_reducible show wpAny _ _ (leaving _ _) _ _ _); first | (with_reducible ((k_here; k_dflt ((refine' leave_raiseD (by k_asm) (by k_asm) (by k_asm) (by assumption) (by assumption) (by exact hne_cons (by assumption) (by assumption)) (by rfl) ?_; intro _ _ _))))) | ((k_here; k_dflt ((refine' leave_raiseD (by k_asm) (by k_asm) (by k_asm) (by assumption) (by assumption) (by exact hne_cons (by assumption) (by assumption)) (by rfl) ?_; intro _ _ _)))))
      | ((with_reducible show wpAny _ _ (exec (Stmt.Raise (some _) none _) _) _ _ _); first | (with_reducible ((k_here; k_dflt (refine' exec_raise34 (by k_asm) (by rfl) ?_)))) | ((k_here; k_dflt (refine' exec_raise34 (by k_asm) (by rfl) ?_))))
      | ((with_reducible show wpAny _ _ (exec _ _) _ _ _); k_here; k_fold; walk1)
      | walk1
      | (dsimp only; walk1)
      | (leave1; walk_say "STEP leave1"; try dsimp only)
      | fail "no step")
    refine' enter_row_spec ?B ?F ?X ?N ?T ?k ?d ?u _ _ _ _ ?hm ?U ?lo ?TD ?hc _ _ ?hx ?hf ?h0 ?h1 ?hr ?r0 ?rS ?rP ?er; (case B => k_asm); (case F => k_asm); (case X => k_asm); (case N => k_asm); (case T => k_asm); (case k => rfl); (case d => ktr_room); (case u => ktr_units); (case hm => exact hm'); (case U => exact U'); (case lo => with_reducible assumption); (case TD => exact T'); (case hc => exact hc'); (case hx => exact q1); (case hf => exact q2); (case h0 => exact q3); (case h1 => exact q4); (case hr => exact q5)
    case rS => intro hE; exact absurd q7 hE
    case rP => intro hE; exact absurd q7 hE
    case er => intro hE; exact absurd q7 hE
    intro _ h' tk' t' F' N'
    (try k_fold)
    repeat' (first
      | (k_unfold; (try dsimp only))
      | (k_end; wrow_close)
      | ((with_reducible show wpAny _ _ (call (Value.ref _) _) _ _ _); first | (with_reducible ((k_here; k_dflt (first | (refine' call_basic (by k_asm) (by k_asm) (by k_asm) (by k_asm) (by k_asm) (by rfl) (by first | exact room1 (by with_reducible assumption) (by decide) | ktr_room) (by first | exact units1 (by with_reducible assumption) (by decide) | ktr_units) _ _ _ ?_; intro _ _ _ _ _ _ F' _ he' _ _ _ _ _; refine' ⟨_, _, _, rfl, Frag.In.keeps (by k_asm) (Fr.keep F'), he', ?_⟩; (try dsimp only)) | (refine' enter_row_spec (by k_asm) (by k_asm) (by k_asm) (by k_asm) (by k_asm) (by rfl) (by first | exact room1 (by with_reducible assumption) (by decide) | ktr_room) (by first | exact units1 (by with_reducible assumption) (by decide) | ktr_units) _ _ _ _ (by with_reducible assumption) (by with_reducible assumption) (by with_reducible assumption) (by with_reducible assumption) (by with_reducible assumption) _ _ (by with_reducible assumption) (by with_reducible assumption) (by with_reducible assumption) (by with_reducible assumption) (by with_reducible assumption) (by intro hE; exact absurd hE (by with_reducible assumption)) ?_ (by intro _ hE; exact absurd hE (ne_tf (by with_reducible assumption))) (by intro _ hE; exact absurd hE (ne_tf (by with_reducible assumption))); intro _ _ _ _ _ _ _ _; (try k_fold)))))) | ((k_here; k_dflt (first | (refine' call_basic (by k_asm) (by k_asm) (by k_asm) (by k_asm) (by k_asm) (by rfl) (by first | exact room1 (by with_reducible assumption) (by decide) | ktr_room) (by first | exact units1 (by with_reducible assumption) (by decide) | ktr_units) _ _ _ ?_; intro _ _ _ _ _ _ F' _ he' _ _ _ _ _; refine' ⟨_, _, _, rfl, Frag.In.keeps (by k_asm) (Fr.keep F'), he', ?_⟩; (try dsimp only)) | (refine' enter_row_spec (by k_asm) (by k_asm) (by k_asm) (by k_asm) (by k_asm) (by rfl) (by first | exact room1 (by with_reducible assumption) (by decide) | ktr_room) (by first | exact units1 (by with_reducible assumption) (by decide) | ktr_units) _ _ _ _ (by with_reducible assumption) (by with_reducible assumption) (by with_reducible assumption) (by with_reducible assumption) (by with_reducible assumption) _ _ (by with_reducible assumption) (by with_reducible assumption) (by with_reducible assumption) (by with_reducible assumption) (by with_reducible assumption) (by intro hE; exact absurd hE (by with_reducible assumption)) ?_ (by intro _ hE; exact absurd hE (ne_tf (by with_reducible assumption))) (by intro _ hE; exact absurd hE (ne_tf (by with_reducible assumption))); intro _ _ _ _ _ _ _ _; (try k_fold))))))
      | ((with_reducible show wpAny _ _ (exec (Stmt.For _ _ _ _ _) _) _ _ _); first | (with_reducible ((k_here; (rename Fr _ _ _ _ => lF'); (with_unfolding_all refine' For_invVF lF' ?k1 ?k2 ?_; (case k1 => exact rfl); (case k2 => exact rfl); k_whole)))) | ((k_here; (rename Fr _ _ _ _ => lF'); (with_unfolding_all refine' For_invVF lF' ?k1 ?k2 ?_; (case k1 => exact rfl); (case k2 => exact rfl); k_whole))))
      | ((with_reducible show wpAny _ _ (exec (Stmt.For _ _ _ _ _) _) _ _ _); first | (with_reducible ((k_here; (rename Fr _ _ _ _ => lF'); (with_unfolding_all refine' For_invVF lF' ?k1 ?k2 ?_; (case k1 => exact rfl); (case k2 => exact rfl); k_whole)))) | ((k_here; (rename Fr _ _ _ _ => lF'); (with_unfolding_all refine' For_invVF lF' ?k1 ?k2 ?_; (case k1 => exact rfl); (case k2 => exact rfl); k_whole))))
      | (first | (with_reducible ((k_here; (with_reducible show wpAny _ _ (call (Value.builtin "str.strip") [Value.str _ _, Value.str _ _]) _ _ _); refine SCL.stripChars (hsz := by exact size_le (by assumption)) ?_; intro _ _ _))) | ((k_here; (with_reducible show wpAny _ _ (call (Value.builtin "str.strip") [Value.str _ _, Value.str _ _]) _ _ _); refine SCL.stripChars (hsz := by exact size_le (by assumption)) ?_; intro _ _ _)))
      | (first | (with_reducible ((k_here; (with_reducible show wpAny _ _ (eval (Expr.Call (Expr.Name _ _) _ [] _) _) _ _ _); k_dflt (refine Call_ ?_)))) | ((k_here; (with_reducible show wpAny _ _ (eval (Expr.Call (Expr.Name _ _) _ [] _) _) _ _ _); k_dflt (refine Call_ ?_))))
      | ((with_reducible show wpAny _ _ (leaving _ _) _ _ _); first | (with_reducible ((k_here; k_dflt ((refine' leave_raiseD (by k_asm) (by k_asm) (by k_asm) (by assumption) (by assumption) (by exact hne_cons (by assumption) (by assumption)) (by rfl) ?_; intro _ _ _))))) | ((k_here; k_dflt ((refine' leave_raiseD (by k_asm) (by k_asm) (by k_asm) (by assumption) (by assumption) (by exact hne_cons (by assumption) (by assumption)) (by rfl) ?_; intro _ _ _)))))
      | ((with_reducible show wpAny _ _ (exec (Stmt.Raise (some _) none _) _) _ _ _); first | (with_reducible ((k_here; k_dflt (refine' exec_raise34 (by k_asm) (by rfl) ?_)))) | ((k_here; k_dflt (refine' exec_raise34 (by k_asm) (by rfl) ?_))))
      | ((with_reducible show wpAny _ _ (exec _ _) _ _ _); k_here; k_fold; walk1)
      | walk1
      | (dsimp only; walk1)
      | (leave1; walk_say "STEP leave1"; try dsimp only)
      | fail "no step")
    exact err _ _ _ _ _ _ (by with_reducible assumption) (RaisedD.sub (by with_reducible assumption) (sub_end)) (by with_reducible assumption) ⟨_, _, by with_reducible assumption⟩
end
end Mine
end

/-! part E4 -/
section
open PySem PySem.W PyProof.Rows PyProof.V
open PySem.Spec PySem.Calls
set_option maxRecDepth 100000
set_option linter.unusedVariables false
namespace Mine
/-! calls from which the frames of the callers may come back turned -/
def LeaveT (A₀ : Around) (base : Heap) (outer : List Env) (env : Env) (h₀ : Heap) (L : Addr) (m : Str → Option Value) (g : Heap) (R : Result → Shared → Prop) (v : Value) (s' : Shared) : Prop :=
  ∃ g' L' m' news', KtsTurn (frs (env :: outer)) g g' ∧ Fr g' L' s'.heap m' ∧ News g' L' s'.heap news' ∧
    ∀ h₀', KtsTurn (frs outer) h₀ h₀' → Below A₀ base outer h₀' → KtsDicts (frs outer) h₀' → Fr h₀' L s'.heap m → News h₀' L s'.heap news' → R (.ok (.ret v)) s'
theorem leaveT_ {A₀ : Around} {base : Heap} {outer : List Env} {env : Env} {h₀ g g' : Heap} {L L' : Addr} {m m' : Str → Option Value} {news' : List (Addr × Obj)} {R : Result → Shared → Prop} {v : Value} {s' : Shared}
    (T : KtsTurn (frs (env :: outer)) g g') (F : Fr g' L' s'.heap m') (N : News g' L' s'.heap news')
    (k : ∀ h₀', KtsTurn (frs outer) h₀ h₀' → Below A₀ base outer h₀' → KtsDicts (frs outer) h₀' → Fr h₀' L s'.heap m → News h₀' L s'.heap news' → R (.ok (.ret v)) s') : LeaveT A₀ base outer env h₀ L m g R v s' := ⟨g', L', m', news', T, F, N, k⟩
theorem frs_cons {env : Env} {L b : Addr} {outer : List Env} (hf : env.frame = some L) (hm : b ∈ frs (env :: outer)) : b = L ∨ b ∈ frs outer := by
  obtain ⟨e, he, hfe⟩ := List.mem_filterMap.mp hm
  rcases List.mem_cons.mp he with rfl | he
  · exact .inl (Option.some.inj (hfe.symm.trans hf))
  · exact .inr (List.mem_filterMap.mpr ⟨e, he, hfe⟩)
section
variable {A₀ A : Around} {s : Shared} {base h₀ : Heap} {outer : List Env} {L : Addr} {m : Str → Option Value} {env : Env} {news : List (Addr × Obj)} {R : Result → Shared → Prop}
theorem groundT (B : Below A₀ base outer h₀) (F : Fr h₀ L s.heap m) (N : News h₀ L s.heap news) (D : KtsDicts (frs outer) h₀) (hA : A.frames = some (env :: outer)) (hf : env.frame = some L) (hke : env.scope.kind = .function) :
    Fr h₀ L (hideAll s.heap (news.map (·.1))) m ∧ Below A base (env :: outer) (hideAll s.heap (news.map (·.1))) ∧ h₀.StaysIn (hideAll s.heap (news.map (·.1))) ∧ KtsDicts (frs (env :: outer)) (hideAll s.heap (news.map (·.1))) ∧
      ∀ v s', LeaveT A₀ base outer env h₀ L m (hideAll s.heap (news.map (·.1))) R v s' → R (.ok (.ret v)) s' := by
  obtain ⟨FG, BG, st, _⟩ := groundX (R := R) B F N hA hf hke
  obtain ⟨oL, es, ep, hLg, hLd, hLk, hLf⟩ := FG.ns
  have nL₀ : h₀.get? L = none := kts_self F
  refine ⟨FG, BG, st, fun b hb => ?_, fun v s' hl => ?_⟩
  · rcases frs_cons hf hb with rfl | hb
    · exact ⟨oL, es, ep, hLg, hLd⟩
    · obtain ⟨o, es', n', ho, hd⟩ := D b hb
      exact ⟨o, es', n', st b o ho, hd⟩
  · obtain ⟨g', L', m', news', T', F', N', k⟩ := hl
    obtain ⟨sl, hs⟩ := T'.up hLg
    obtain ⟨T₁, S₁⟩ := kts_turn_at (h := s'.heap) (fs := frs outer) (g := h₀)
      (fun b hb => by
        obtain ⟨_, o, ho, _⟩ := B.frames.mem hb
        exact ⟨o, ho⟩)
      (fun b o e nm => F'.keep b o (T'.other b o (st b o e) fun q => by
        rcases frs_cons hf q with z | z
        · rw [z, nL₀] at e; cases e
        · exact nm z))
      (fun b o e hm => by
        obtain ⟨sl', hs'⟩ := T'.up (st b o e)
        exact ⟨sl', F'.keep _ _ hs'⟩)
    have B₁ : Below A₀ base outer (ktsHeap s'.heap (frs outer) h₀) := ⟨B.stack, fun b o e => T₁.other b o (B.stays b o e) (fun hm => by
      rw [(B.frames.mem hm).1] at e; cases e), B.frames.of_keeps fun b o e _ => by
      obtain ⟨sl', hs'⟩ := T₁.up e
      exact ⟨_, hs', rfl⟩⟩
    refine k _ T₁ B₁ (D.turn T₁) ⟨⟨_, es, ep, F'.keep _ _ hs, hLd, hLk, hLf⟩, S₁, by rw [T₁.size]; exact F.above⟩ fun p hp => ⟨(N' p hp).1, fun q => ?_, ?_⟩
    · have := (N' p hp).2.2; rw [q, hs] at this; cases this
    · refine T₁.none_ _ ?_
      cases q : h₀.get? p.1 with
      | none => rfl
      | some o =>
        obtain ⟨sl', hs'⟩ := T'.up (st _ _ q)
        have := (N' p hp).2.2
        rw [hs'] at this; cases this
end
section
variable {prog : Program} {w : World} {A₀ A : Around} {s : Shared} {base h₀ : Heap} {outer : List Env} {L : Addr} {m : Str → Option Value} {env : Env} {news : List (Addr × Obj)} {K : Frag} {p : Program} {loose : List Str} {mean : ExcName → Option Value} {mg mb : Str → Option Value}
  {R : Result → Shared → Prop} {name qual : Str} {params : Arguments} {body : List Stmt} {scope : Scope} {dV kV doc pm cdv ct oc : Value} {an od : Option Addr} {osl : Array (Option Value)} {f : Addr} {args : Args} {binds : List (Str × Value)}
theorem kindsT (hkind : (binds.all fun y => scope.names.lookup y.1 == some .local || scope.names.lookup y.1 == some .cell) = true) :
    ∀ n, ∀ x ∈ binds, scope.names.lookup x.1 = some .local ∨ (scope.names.lookup x.1 = some .cell ∧ ((cellsFrom n scope.names []).lookup x.1).isSome = true) := kindsX hkind
theorem code_defT (B : Below A₀ base outer h₀) (F : Fr h₀ L s.heap m) (X₀ : K.In h₀) (N : News h₀ L s.heap news) (T : Top p loose mean mg mb h₀) (D : KtsDicts (frs outer) h₀) (hA : A.frames = some (env :: outer)) (hf : env.frame = some L) (hke : env.scope.kind = .function)
    (ho : K.lookup f = some ⟨oc, od, .func (fnOf name qual params body scope dV kV doc pm an cdv ct), osl⟩) (hcd : codeIn K cdv qual = true) (hroom : A.depth < recursionLimit)
    (hbind : BindsTo s (fnOf name qual params body scope dV kV doc pm an cdv ct) args binds) (hkind : (binds.all fun y => scope.names.lookup y.1 == some .local || scope.names.lookup y.1 == some .cell) = true)
    (hnd : ((cellsFrom 0 scope.names []).map (·.1)).Nodup)
    (h : ∀ g L' h₁ tk cells, Fr h₀ L g m → Fr g L' h₁ (bindL (envOfC qual scope L' f cdv).kindOf binds fun _ => none) → News g L' h₁ (cells ++ news) →
      CellsAre (bindC (envOfC qual scope L' f cdv).kindOf binds fun _ => none) (cellsFrom (L' + 1) scope.names []) cells → Below A base (env :: outer) g → K.In g → Top p loose mean mg mb g → KtsDicts (frs (env :: outer)) g → KtsTurn (frs (env :: outer)) g g → (∀ p ∈ news, p.1 < L') →
      wpAny (model prog w) (A.deeper (envOfC qual scope L' f cdv)) (execs body (envOfC qual scope L' f cdv))
        (fun fl s' => LeaveT A₀ base outer env h₀ L m g R (match fl with | .ret v => v | _ => .none) s')
        (fun e s' => wpAny (model prog w) (A.deeper (envOfC qual scope L' f cdv)) (leaving (envOfC qual scope L' f cdv) e) (fun _ s'' => R (.error e) s'') (fun e' s'' => R (.error e') s'') s')
        { s with heap := h₁, toks := tk })
    (hco : scope.isCoroutine = false) (hgen : scope.isGenerator = false) (hk : scope.kind = .function) : codeAny (model prog w) A (.call (.ref f) args) R s := by
  obtain ⟨FG, BG, st, DG, lv⟩ := groundT (R := R) B F N D hA hf hke
  refine codeAny_call_function hroom ((X₀.keeps F.keep) _ _ ho) rfl hco hgen rfl (codeRec_of (X₀.keeps F.keep) hcd) (hbind _ _ _ _ ?_)
  refine wpAny_newFunctionEnv_cells hk (kindsX hkind _) fun env' he s' x => ?_
  subst he
  refine ⟨(T.nolimit.keeps F.keep).keeps x.toInCall.keep, codeAny_func ?_⟩
  obtain ⟨h₁, tk, rfl, _⟩ := x.done
  have hk₁ := x.toInCall.keep
  obtain ⟨cells, NC, Y⟩ := Cl.news (h₀ := s.heap) (Nat.le_refl _) fun n c hm => ⟨x.cell n c (lookup_of_mem_nodup (cellsFrom_names scope.names 0 (s.heap.objs.size + 1) [] [] rfl ▸ hnd) hm), x.above n c hm⟩
  refine wpAny_mono (h _ s.heap.objs.size h₁ tk cells FG ⟨x.toInCall.ns, fun b o e => hk₁ b o (of_hideAll _ e), Nat.le_of_eq (hideAll_size _ _)⟩ (fun p hp => ?_) Y BG (X₀.keeps st) (T.keeps st) DG KtsTurn.refl (fun p hp => Heap.lt_size (N p hp).1)) (fun fl s' hl => lv _ _ hl) fun _ _ y => y
  rcases List.mem_append.mp hp with hp | hp
  · refine ⟨(NC p hp).1, (NC p hp).2.1, ?_⟩
    cases q : (hideAll s.heap (news.map (·.1))).get? p.1 with
    | none => rfl
    | some o => have := of_hideAll _ q; rw [(NC p hp).2.2] at this; cases this
  · exact ⟨hk₁ _ _ (N p hp).1, Nat.ne_of_lt (Heap.lt_size (N p hp).1), hideAll_none _ (List.mem_map_of_mem hp)⟩
theorem code_defTP (B : Below A₀ base outer h₀) (F : Fr h₀ L s.heap m) (X₀ : K.In h₀) (N : News h₀ L s.heap news) (T : Top p loose mean mg mb h₀) (D : KtsDicts (frs outer) h₀) (hA : A.frames = some (env :: outer)) (hf : env.frame = some L) (hke : env.scope.kind = .function)
    (ho : K.lookup f = some ⟨oc, od, .func (fnOf name qual params body scope dV kV doc pm an cdv ct), osl⟩) (hcd : codeIn K cdv qual = true) (hroom : A.depth < recursionLimit)
    (hbind : BindsTo s (fnOf name qual params body scope dV kV doc pm an cdv ct) args binds) (hloc : ∀ y ∈ binds, scope.names.lookup y.1 = some .local)
    (h : ∀ g L' h₁, Fr h₀ L g m → Fr g L' h₁ (fun y => binds.reverse.lookup y) → News g L' h₁ news → Below A base (env :: outer) g → K.In g → Top p loose mean mg mb g → KtsDicts (frs (env :: outer)) g → KtsTurn (frs (env :: outer)) g g → (∀ p ∈ news, p.1 < L') →
      wpAny (model prog w) (A.deeper (envOf qual scope L' f cdv)) (execs body (envOf qual scope L' f cdv))
        (fun fl s' => LeaveT A₀ base outer env h₀ L m g R (match fl with | .ret v => v | _ => .none) s')
        (fun e s' => wpAny (model prog w) (A.deeper (envOf qual scope L' f cdv)) (leaving (envOf qual scope L' f cdv) e) (fun _ s'' => R (.error e) s'') (fun e' s'' => R (.error e') s'') s')
        { s with heap := h₁, toks := s.toks + binds.length })
    (hcell : ∀ x ∈ scope.names, x.2 ≠ .cell) (hco : scope.isCoroutine = false) (hgen : scope.isGenerator = false) (hk : scope.kind = .function) : codeAny (model prog w) A (.call (.ref f) args) R s := by
  obtain ⟨FG, BG, st, DG, lv⟩ := groundT (R := R) B F N D hA hf hke
  refine codeAny_call_def (fd := fnOf name qual params body scope dV kV doc pm an cdv ct) (body := body) (binds := binds) hroom ((X₀.keeps F.keep) _ _ ho) rfl (T.nolimit.keeps F.keep) (codeRec_of (X₀.keeps F.keep) hcd) rfl hbind hcell hloc (fun h₁ hns hk₁ => ?_) hco hgen hk
  exact wpAny_mono (h _ s.heap.objs.size h₁ FG ⟨hns, fun b o e => hk₁ b o (of_hideAll _ e), Nat.le_of_eq (hideAll_size _ _)⟩
    (fun p hp => ⟨hk₁ _ _ (N p hp).1, Nat.ne_of_lt (Heap.lt_size (N p hp).1), hideAll_none _ (List.mem_map_of_mem hp)⟩) BG (X₀.keeps st) (T.keeps st) DG KtsTurn.refl (fun p hp => Heap.lt_size (N p hp).1)) (fun fl s' hl => lv _ _ hl) fun _ _ y => y
end
end Mine
end

/-! part E5 -/
section
open PySem PySem.W PyProof.Rows PyProof.V
open PySem.Spec PySem.Calls
set_option maxRecDepth 100000
set_option linter.unusedVariables false
namespace Mine
section
variable {w : World} {prog : Program} {A₀ : Around} {E : Value → Shared → Prop} {s' : Shared} {base g g₀ G : Heap} {outer : List Env} {L a e dx : Addr} {m : Str → Option Value} {name : Str} {scope : Scope} {cd : Value}
  {n : Str} {b₀ : Stmt} {suite : List Stmt} {pos np : Pos} {rest : List ExceptHandler} {Q : Flow → Shared → Prop} {news : List (Addr × Obj)}
  {p : Program} {loose : List Str} {mean : ExcName → Option Value} {mg mb : Str → Option Value} {x : Str} {odx : Obj} {mA : Str → Option Value} {P : Params}
theorem caughtD (R : RaisedD base G (envOf name scope L a cd :: outer) e dx ((dx, odx) :: news) s'.heap) (F : Fr g L G m) (K : Below A₀ base outer g) (hsm : G.UpToSlots s'.heap) (XB : (hd.heap_39 P).In base) (TB : Top p loose mean mg mb base)
    (D : KtsDicts (frs outer) g) (T0 : KtsTurn (frs outer) g₀ g) (hD : DictNs odx mA) (ex : nsIn (hd.heap_39 P) mainGlobals x = some (some (.ref 34)))
    (k : ∀ h' g' tk, KtsTurn (frs outer) g₀ g' → Fr g' L h' (fun y => if y = n then some (.ref e) else m y) → News g' L h' ((dx, odx) :: news) → h'.Inst e 34 mA → Below A₀ base outer g' → (hd.heap_39 P).In g' → Top p loose mean mg mb g' → KtsDicts (frs outer) g' →
      wpAny (model prog w) ((A₀.deeper (envOf name scope L a cd)).mark (some (.ref e))) (execs (b₀ :: suite) (envOf name scope L a cd))
        (fun f s₄ => wpAny (model prog w) (A₀.deeper (envOf name scope L a cd)) (do bindName (envOf name scope L a cd) n .none; unbindBehindTheSuite (envOf name scope L a cd) n pos) (fun _ s₅ => Q f s₅) E s₄)
        (AsSuiteRaised (model prog w) ((A₀.deeper (envOf name scope L a cd)).mark (some (.ref e))) (envOf name scope L a cd) n pos (notedBy (model prog w) ((A₀.deeper (envOf name scope L a cd)).mark (some (.ref e))) (envOf name scope L a cd) (cameBackBy (model prog w) (A₀.deeper (envOf name scope L a cd)) (envOf name scope L a cd) E)))
        { s' with heap := h', toks := tk })
    (hk : scope.kind = .function := by rfl) (hlo : (envOf name scope L a cd).kindOf n = some .local := by rfl) (hx : (envOf name scope L a cd).kindOf x = some .globalImplicit := by rfl) (hd' : (x == ("__debug__" : Str)) = false := by decide) :
    wpAny (model prog w) (A₀.deeper (envOf name scope L a cd)) (noteFrame (.ref e) (envOf name scope L a cd))
      (fun _ s₂ => wpAny (model prog w) (A₀.deeper (envOf name scope L a cd)) (setFlight (.ref e) none) (fun _ s₃ =>
        wpAny (model prog w) (A₀.deeper (envOf name scope L a cd)) (handleBy (.ref e) (envOf name scope L a cd) (.ExceptHandler (some (.Name x np)) (some n) (b₀ :: suite) pos :: rest)) Q E s₃) E s₂) E s' := by
  obtain ⟨B, hB, hBG, hl, hfl⟩ := R.ex
  have hL : B.get? L = none := by
    obtain ⟨_, ⟨L', _, hf, hn', _⟩, _⟩ := hfl.frames
    obtain rfl : L = L' := Option.some.inj hf
    exact hn'
  have hoff : ∀ {h h' : Heap}, (∀ b o, h.get? b = some o → (∀ vs, o.data ≠ .fields vs) → h'.get? b = some o) → h.UpToSlots h' := fun k b o e hn => ⟨o.slots, k b o e hn⟩
  refine note_next (Around.frames_deeper K.stack) rfl hfl fun h₄ fl₄ sm₄ => ?_
  refine flight_off fl₄ fun h₅ fl₅ k₅ => ?_
  have sm₅ := hsm.trans (sm₄.trans (hoff k₅))
  obtain ⟨g₅, T₅, F₅, K₅⟩ := kts_ground K F hBG fl₅.stays sm₅
  have X₅ : (hd.heap_39 P).In g₅ := XB.keeps K₅.stays
  have P₅ : TopRead p loose mg mb g₅ := topRead_of (TB.keeps K₅.stays)
  obtain ⟨oe, vs, T, oT, ts, he, hc, hdx, hdd, _⟩ := fl₅.trc.ex
  refine wpAny_handleBy_cons (codeAny_handlers_test (name_K F₅ X₅ P₅ ex ?_ hk hx hd')) (by intro q; cases q)
  refine wpAny_excMatches_sub_self (F₅.keep _ _ (at34 X₅)) he hc (by decide +kernel) (codeAny_handlers_suite_as ?_)
  refine flight_off fl₅ fun h₆ fl₆ k₆ => ?_
  have sm₆ := sm₅.trans (hoff k₆)
  obtain ⟨g₆, T₆, F₆, K₆⟩ := kts_ground K F hBG fl₆.stays sm₆
  obtain ⟨oe, vs, T, oT, ts, he, hc, hdx, hdd, _⟩ := fl₆.trc.ex
  have ne₆ : g₆.get? e = none := T₆.none_ _ (kts_fresh F hBG fl₆.new fun o ho mm => by
    obtain ⟨_, o', ho', hnd⟩ := K.frames.mem mm
    rw [ho] at ho'
    cases ho'
    obtain ⟨sl, hs⟩ := sm₆ _ _ (F.keep _ _ ho) hnd
    rw [he] at hs
    cases hs
    exact hnd _ hdd)
  have Nl : News g₆ L h₆ ((dx, odx) :: news) := fun q hq => ⟨fl₆.stays _ _ (hl q hq).1, (fun z => by have := (hl q hq).1; rw [z, hL] at this; cases this), T₆.none_ _ (kts_none F.keep (hl q hq).2.1)⟩
  have N₆ : News g₆ L h₆ ((e, oe) :: (dx, odx) :: news) := News.more F₆ Nl he (fun es n q => by rw [hdd] at q; cases q) ne₆
  refine stN F₆ N₆ (fun h₇ F₇ N₇ => ?_) hk hlo
  have hde : dx ≠ e := fun q => by have := (hl _ (.head _)).1; rw [q, fl₆.new] at this; cases this
  refine k h₇ g₆ _ (T0.trans T₆) F₇ (fun q hq => N₇ q (.tail _ hq)) ⟨oe, (N₇ _ (.head _)).1, hc, (fun c q => by rw [hdd] at q; cases q), .inr ⟨dx, hdx, hde, hD _ _ (N₇ _ (.tail _ (.head _))).1⟩⟩ K₆ (XB.keeps K₆.stays) (TB.keeps K₆.stays) (D.turn T₆)
end
end Mine
end

/-! part P13 -/
section
open PySem PySem.W PyProof.Rows PyProof.V
open PySem.Spec PySem.Calls
set_option maxRecDepth 100000
set_option linter.unusedVariables false
namespace Mine
theorem fresh_P13 : True := by
  w_top off
  trivial
def texts : List Str := [Str.ofString "PRINT 1", Str.ofString "", Str.ofString "  GOTO 10 ", Str.ofString "REM a  b", Str.ofString " ", Str.ofString "END", Str.ofString "7 PRINT", Str.ofString "X=1:Y=2"]
def numbers : List Int := [10, 20, 30, 0, 65529, 65530, 15, 123456789]
section
variable {w : World} {p : Program} {loose : List Str} {mean : ExcName → Option Value} {mg mb : Str → Option Value} {dp un : Nat} {gd : Option (List Code)} {cn : Str} {cs : Scope} {a : Addr} {ccd : Value} {cl : List (Str × Addr)} {outer : List Env} {A₀ : Around} {base h₀ : Heap} {L : Addr} {m : Str → Option Value} {news : List (Addr × Obj)} {s : Shared}
    {Q E : Value → Shared → Prop}
set_option maxHeartbeats 8000000 in
theorem law_texts_spec (B : Below A₀ base outer h₀) (F : Fr h₀ L s.heap m) (X : (hd.heap_39 w.params).In h₀) (N : News h₀ L s.heap news) (T : Top p loose mean mg mb h₀) (hk : cs.kind = .function) (hd : dp + 40 < recursionLimit) (hu : un + 400 < cLine)
   (ret : ∀ D vs nn h' tk', StrsAre vs texts → Fr h₀ L h' m → News h₀ L h' ((D, listOf vs.toArray nn) :: news) → (∀ q ∈ news, q.1 < D) → Q (.ref D) { s with heap := h', toks := tk' }) :
   wpAny (model PySem.Challenge.rw_pc0001_01.row.prog w) (ktrTop dp un gd cn cs L a ccd cl outer) (call (.ref 131) []) Q E s := by
  revert X; k_fill; intro X
  refine wpAny_call ?_
  k_dflt ktr_enter
  k_with_none
  k_steps
  refine' ret _ [_, _, _, _, _, _, _, _] 0 _ _ ?a ?b ?c ?d
  case b => assumption
  case c => assumption
  case d => assumption
  exact .cons _ _ (.cons _ _ (.cons _ _ (.cons _ _ (.cons _ _ (.cons _ _ (.cons _ _ (.cons _ _ .nil)))))))
set_option maxHeartbeats 8000000 in
theorem law_numbers_spec (B : Below A₀ base outer h₀) (F : Fr h₀ L s.heap m) (X : (hd.heap_39 w.params).In h₀) (N : News h₀ L s.heap news) (T : Top p loose mean mg mb h₀) (hk : cs.kind = .function) (hd : dp + 40 < recursionLimit) (hu : un + 400 < cLine)
   (ret : ∀ D vs nn h' tk', IntsAre vs numbers → Fr h₀ L h' m → News h₀ L h' ((D, listOf vs.toArray nn) :: news) → (∀ q ∈ news, q.1 < D) → Q (.ref D) { s with heap := h', toks := tk' }) :
   wpAny (model PySem.Challenge.rw_pc0001_01.row.prog w) (ktrTop dp un gd cn cs L a ccd cl outer) (call (.ref 138) []) Q E s := by
  revert X; k_fill; intro X
  refine wpAny_call ?_
  k_dflt ktr_enter
  k_with_none
  k_steps
  refine' ret _ [_, _, _, _, _, _, _, _] 0 _ _ ?a ?b ?c ?d
  case b => assumption
  case c => assumption
  case d => assumption
  exact .cons _ _ (.cons _ _ (.cons _ _ (.cons _ _ (.cons _ _ (.cons _ _ (.cons _ _ (.cons _ _ .nil)))))))
end
end Mine
end

/-! part P14 -/
section
open PySem PySem.W PyProof.Rows PyProof.V
open PySem.Spec PySem.Calls
set_option maxRecDepth 100000
set_option linter.unusedVariables false
namespace Mine
theorem fresh_P14 : True := by
  w_top off
  trivial
theorem strs_get : ∀ {vs : List Value} {rs : List Str}, StrsAre vs rs → ∀ (i : Nat), i < rs.length → ∃ t, vs[i]? = some (.str (rs.getD i (Str.ofString "")) t)
  | _, _, .nil, i, h => by simp at h
  | _, _, .cons z t r, 0, _ => ⟨t, rfl⟩
  | _, _, .cons z t r, i + 1, h => by
    obtain ⟨t', e⟩ := strs_get r i (by simpa using h)
    exact ⟨t', by rw [List.getElem?_cons_succ, e]; rfl⟩
theorem ints_get : ∀ {vs : List Value} {ns : List Int}, IntsAre vs ns → ∀ (i : Nat), i < ns.length → ∃ t, vs[i]? = some (.int (ns.getD i 0) t)
  | _, _, .nil, i, h => by simp at h
  | _, _, .cons z t r, 0, _ => ⟨t, rfl⟩
  | _, _, .cons z t r, i + 1, h => by
    obtain ⟨t', e⟩ := ints_get r i (by simpa using h)
    exact ⟨t', by rw [List.getElem?_cons_succ, e]; rfl⟩
@[irreducible] def txtAt (k : Int) : Str := texts.getD k.toNat (Str.ofString "")
@[irreducible] def numAt (k : Int) : Int := numbers.getD k.toNat 0
def pres : List Str := [Str.ofString "", Str.ofString " ", Str.ofString "00"]
def preAt (k : Int) : Str := pres.getD k.toNat (Str.ofString "")
theorem preAt_len {k : Int} (h0 : 0 ≤ k) (h1 : k < 3) : (preAt k).length ≤ 2 := by
  unfold preAt
  have h : k.toNat < 3 := by omega
  have z : ∀ i, i < 3 → (pres.getD i (Str.ofString "")).length ≤ 2 := by decide +kernel
  exact z _ h
theorem lt3 {a : Int} (h : Int.fmod a 4 ≠ 3) : Int.fmod a 4 < 3 := by
  have := fmod_hi a (n := 4) (by decide)
  omega
theorem nat8 {P : Nat → Prop} (h : ∀ i, i < 8 → P i) (h8 : ∀ i, 8 ≤ i → P i) (i : Nat) : P i := (Nat.lt_or_ge i 8).elim (h i) (h8 i)
theorem txtAt_len (k : Int) : (txtAt k).length ≤ 1000 := by
  unfold txtAt
  refine nat8 (P := fun i => (texts.getD i (Str.ofString "")).length ≤ 1000) ?_ ?_ k.toNat
  · decide +kernel
  · intro i hi
    rw [List.getD_eq_getElem?_getD, List.getElem?_eq_none (by show texts.length ≤ i; exact hi)]
    decide +kernel
theorem numAt_bnd (k : Int) : 0 ≤ numAt k ∧ numAt k ≤ 123456789 := by
  unfold numAt
  refine nat8 (P := fun i => 0 ≤ numbers.getD i 0 ∧ numbers.getD i 0 ≤ 123456789) ?_ ?_ k.toNat
  · decide +kernel
  · intro i hi
    rw [List.getD_eq_getElem?_getD, List.getElem?_eq_none (by show numbers.length ≤ i; exact hi)]
    decide
section
variable {prog : Program} {w : World} {A : Around} {E : Value → Shared → Prop} {s : Shared} {h₀ : Heap} {L D : Addr} {news : List (Addr × Obj)} {vs : List Value} {nn : Nat} {k : Int} {u : Tok} {value slice : PySem.Expr} {Q : Value → Shared → Prop}
theorem item_txts (N : News h₀ L s.heap news) (hm : (D, listOf vs.toArray nn) ∈ news) (hi : StrsAre vs texts) (h0 : 0 ≤ k) (h1 : k < 8) (h : ∀ t, (txtAt k).length ≤ 1000 → Q (.str (txtAt k) t) s)
    (hs : subscripted slice false (.ref D) (.int k u) = operate [.ref D, .int k u] (getItem (.ref D) (.int k u))) (hg : ∀ r, letTemporaryGo value (.ref D) r = pure ()) :
    wpAny (model prog w) A (subscriptTail value slice (.ref D) (.int k u)) Q E s := by
  obtain ⟨t, e⟩ := strs_get hi k.toNat (by show k.toNat < 8; omega)
  rw [show texts.getD k.toNat (Str.ofString "") = txtAt k by unfold txtAt; rfl] at e
  exact PyProof.Rows.item_list (items := vs.toArray) ⟨_, (N _ hm).1, rfl, _, rfl⟩ h0 (by omega) (by rw [List.getElem?_toArray]; exact e) (h t (txtAt_len k)) hs hg
theorem item_pres (N : News h₀ L s.heap news) (hm : (D, listOf vs.toArray nn) ∈ news) (hi : StrsAre vs pres) (h0 : 0 ≤ k) (h1 : k < 3) (h : ∀ t, (preAt k).length ≤ 2 → Q (.str (preAt k) t) s)
    (hs : subscripted slice false (.ref D) (.int k u) = operate [.ref D, .int k u] (getItem (.ref D) (.int k u))) (hg : ∀ r, letTemporaryGo value (.ref D) r = pure ()) :
    wpAny (model prog w) A (subscriptTail value slice (.ref D) (.int k u)) Q E s := by
  obtain ⟨t, e⟩ := strs_get hi k.toNat (by show k.toNat < 3; omega)
  exact PyProof.Rows.item_list (items := vs.toArray) ⟨_, (N _ hm).1, rfl, _, rfl⟩ h0 (by omega) (by rw [List.getElem?_toArray]; exact e) (h t (preAt_len h0 h1)) hs hg
theorem item_nums (N : News h₀ L s.heap news) (hm : (D, listOf vs.toArray nn) ∈ news) (hi : IntsAre vs numbers) (h0 : 0 ≤ k) (h1 : k < 8) (h : ∀ t, 0 ≤ numAt k → numAt k ≤ 123456789 → Q (.int (numAt k) t) s)
    (hs : subscripted slice false (.ref D) (.int k u) = operate [.ref D, .int k u] (getItem (.ref D) (.int k u))) (hg : ∀ r, letTemporaryGo value (.ref D) r = pure ()) :
    wpAny (model prog w) A (subscriptTail value slice (.ref D) (.int k u)) Q E s := by
  obtain ⟨t, e⟩ := ints_get hi k.toNat (by show k.toNat < 8; omega)
  rw [show numbers.getD k.toNat 0 = numAt k by unfold numAt; rfl] at e
  exact PyProof.Rows.item_list (items := vs.toArray) ⟨_, (N _ hm).1, rfl, _, rfl⟩ h0 (by omega) (by rw [List.getElem?_toArray]; exact e) (h t (numAt_bnd k).1 (numAt_bnd k).2) hs hg
end
@[irreducible] def lineOf (n : Int) : Int := numAt (Int.fmod n 8)
@[irreducible] def textOf (n : Int) : Str := txtAt (Int.fmod (Int.fdiv n 8) 8)
def formOf (n : Int) : Int := Int.fmod (Int.fdiv n 64) 4
@[irreducible] def rowIn (n : Int) : Str := preAt (formOf n) ++ Str.ofString (toString (lineOf n)) ++ Str.ofString " " ++ textOf n
@[irreducible] def dirOf (n : Int) : Str := Str.ofString "PRINT" ++ textOf n
@[irreducible] def rowDir (n : Int) : Str := Str.ofString "  " ++ Str.ofString "PRINT" ++ textOf n
theorem news_four {g h : Heap} {L : Addr} {p p1 p2 p3 p4 : Addr × Obj} {news : List (Addr × Obj)} (N : News g L h (p :: p1 :: p2 :: p3 :: p4 :: news)) : News g L h (p :: news) := fun q hq => N q (by
  rcases List.mem_cons.mp hq with rfl | hq
  · exact List.mem_cons_self
  · exact List.mem_cons_of_mem _ (List.mem_cons_of_mem _ (List.mem_cons_of_mem _ (List.mem_cons_of_mem _ (List.mem_cons_of_mem _ hq)))))
theorem lt_three {D a b c : Addr} {news : List (Addr × Obj)} (h : a < D ∧ b < D ∧ c < D ∧ AllLt D news) : ∀ q ∈ news, q.1 < D := allLt_mem h.2.2.2
theorem lt_four {D a b c d : Addr} {news : List (Addr × Obj)} (h : a < D ∧ b < D ∧ c < D ∧ d < D ∧ AllLt D news) : ∀ q ∈ news, q.1 < D := allLt_mem h.2.2.2.2
section
variable {w : World} {p : Program} {loose : List Str} {mean : ExcName → Option Value} {mg mb : Str → Option Value} {dp un : Nat} {gd : Option (List Code)} {cn : Str} {cs : Scope} {a : Addr} {ccd : Value} {cl : List (Str × Addr)} {outer : List Env} {A₀ : Around} {base h₀ : Heap} {L : Addr} {m : Str → Option Value} {news : List (Addr × Obj)} {s : Shared}
    {Q E : Value → Shared → Prop}
local macro_rules | `(tactic| k_mem) => `(tactic| first | (with_reducible assumption) | exact List.mem_cons_self | (refine List.mem_cons_of_mem _ ?_; k_mem))
set_option maxHeartbeats 8000000 in
theorem law_typed_spec (B : Below A₀ base outer h₀) (F : Fr h₀ L s.heap m) (X : (hd.heap_39 w.params).In h₀) (N : News h₀ L s.heap news) (T : Top p loose mean mg mb h₀) (hk : cs.kind = .function) (hd : dp + 60 < recursionLimit) (hu : un + 600 < cLine)
   (n : Int) (tn : Tok) (h0 : 0 ≤ n)
   (ret3 : formOf n = 3 → ∀ D t1 t2 h' tk', Fr h₀ L h' m → News h₀ L h' ((D, tupObj [.str (rowDir n) t1, .none, .str (dirOf n) t2]) :: news) → (∀ q ∈ news, q.1 < D) → Q (.ref D) { s with heap := h', toks := tk' })
   (ret : formOf n ≠ 3 → ∀ D t1 t2 t3 h' tk', Fr h₀ L h' m → News h₀ L h' ((D, tupObj [.str (rowIn n) t1, .int (lineOf n) t2, .str (textOf n) t3]) :: news) → (∀ q ∈ news, q.1 < D) → Q (.ref D) { s with heap := h', toks := tk' }) :
   wpAny (model PySem.Challenge.rw_pc0001_01.row.prog w) (ktrTop dp un gd cn cs L a ccd cl outer) (call (.ref 152) [.int n tn]) Q E s := by
  revert X; k_fill; intro X
  refine wpAny_call ?_
  k_dflt ktr_enter
  have hb1 := (numAt_bnd (Int.fmod n 8)).1
  have hb2 := (numAt_bnd (Int.fmod n 8)).2
  unfold rowDir dirOf textOf at ret3
  unfold rowIn lineOf textOf numAt at ret
  unfold numAt at hb1 hb2
  k_with_none
  repeat' (first
    | (k_unfold; (try dsimp only))
    | (k_end; wrow_close)
    | ((with_reducible show wpAny _ _ (subscriptTail _ _ _ _) _ _ _); first | (with_reducible ((k_here; k_dflt (first | (refine' item_txts (by k_asm) (by k_mem) (by with_reducible assumption) (by exact fmod_lo _ (by decide)) (by exact fmod_hi _ (by decide)) ?_ (by with_unfolding_all rfl) (by intro _; with_unfolding_all rfl); intro _ _) | (refine' item_pres (by k_asm) (by k_mem) (by exact .cons _ _ (.cons _ _ (.cons _ _ .nil))) (by exact fmod_lo _ (by decide)) (by exact lt3 (by with_reducible assumption)) ?_ (by with_unfolding_all rfl) (by intro _; with_unfolding_all rfl); intro _ _) | (refine' item_nums (by k_asm) (by k_mem) (by with_reducible assumption) (by exact fmod_lo _ (by decide)) (by exact fmod_hi _ (by decide)) ?_ (by with_unfolding_all rfl) (by intro _; with_unfolding_all rfl); intro _ _ _))))) | ((k_here; k_dflt (first | (refine' item_txts (by k_asm) (by k_mem) (by with_reducible assumption) (by exact fmod_lo _ (by decide)) (by exact fmod_hi _ (by decide)) ?_ (by with_unfolding_all rfl) (by intro _; with_unfolding_all rfl); intro _ _) | (refine' item_pres (by k_asm) (by k_mem) (by exact .cons _ _ (.cons _ _ (.cons _ _ .nil))) (by exact fmod_lo _ (by decide)) (by exact lt3 (by with_reducible assumption)) ?_ (by with_unfolding_all rfl) (by intro _; with_unfolding_all rfl); intro _ _) | (refine' item_nums (by k_asm) (by k_mem) (by with_reducible assumption) (by exact fmod_lo _ (by decide)) (by exact fmod_hi _ (by decide)) ?_ (by with_unfolding_all rfl) (by intro _; with_unfolding_all rfl); intro _ _ _)))))
    | ((with_reducible show wpAny _ _ (call (Value.ref _) _) _ _ _); first | (with_reducible ((k_here; k_dflt (first | (refine' law_texts_spec (by k_asm) (by k_asm) (by k_asm) (by k_asm) (by k_asm) (by rfl) (by first | exact room1 (by with_reducible assumption) (by decide) | ktr_room) (by first | exact units1 (by with_reducible assumption) (by decide) | ktr_units) ?_; intro _ _ _ _ _ _ _ _ _; (try k_fold)) | (refine' law_numbers_spec (by k_asm) (by k_asm) (by k_asm) (by k_asm) (by k_asm) (by rfl) (by first | exact room1 (by with_reducible assumption) (by decide) | ktr_room) (by first | exact units1 (by with_reducible assumption) (by decide) | ktr_units) ?_; intro _ _ _ _ _ _ _ _ _; (try k_fold)))))) | ((k_here; k_dflt (first | (refine' law_texts_spec (by k_asm) (by k_asm) (by k_asm) (by k_asm) (by k_asm) (by rfl) (by first | exact room1 (by with_reducible assumption) (by decide) | ktr_room) (by first | exact units1 (by with_reducible assumption) (by decide) | ktr_units) ?_; intro _ _ _ _ _ _ _ _ _; (try k_fold)) | (refine' law_numbers_spec (by k_asm) (by k_asm) (by k_asm) (by k_asm) (by k_asm) (by rfl) (by first | exact room1 (by with_reducible assumption) (by decide) | ktr_room) (by first | exact units1 (by with_reducible assumption) (by decide) | ktr_units) ?_; intro _ _ _ _ _ _ _ _ _; (try k_fold))))))
    | (first | (with_reducible ((k_here; (with_reducible show wpAny _ _ (eval (Expr.Call (Expr.Name _ _) _ [] _) _) _ _ _); k_dflt (refine Call_ ?_)))) | ((k_here; (with_reducible show wpAny _ _ (eval (Expr.Call (Expr.Name _ _) _ [] _) _) _ _ _); k_dflt (refine Call_ ?_))))
    | ((with_reducible show wpAny _ _ (exec _ _) _ _ _); k_here; k_fold; walk1)
    | walk1
    | (dsimp only; walk1)
    | (leave1; walk_say "STEP leave1"; try dsimp only)
    | fail "no step")
  · exact ret3 (by assumption) _ _ _ _ _ (by assumption) (news_two (by assumption)) (lt_three (by assumption))
  · exact ret (by assumption) _ _ _ _ _ _ (by assumption) (news_four (by assumption)) (lt_four (by assumption))
end
end Mine
end

/-! part P15 -/
section
open PySem PySem.W PyProof.Rows PyProof.V
open PySem.Spec PySem.Calls
set_option maxRecDepth 100000
set_option linter.unusedVariables false
namespace Mine
theorem fresh_P15 : True := by
  w_top off
  trivial
section
variable {w : World} {p : Program} {loose : List Str} {mean : ExcName → Option Value} {mg mb : Str → Option Value} {dp un : Nat} {gd : Option (List Code)} {cn : Str} {cs : Scope} {a : Addr} {ccd : Value} {cl : List (Str × Addr)} {outer : List Env} {A₀ : Around} {base h₀ : Heap} {L : Addr} {m : Str → Option Value} {news : List (Addr × Obj)} {s : Shared}
    {Q E : Value → Shared → Prop}
local macro_rules | `(tactic| k_mem) => `(tactic| first | (with_reducible assumption) | exact List.mem_cons_self | (refine List.mem_cons_of_mem _ ?_; k_mem))
def keptOf (x : Str) : Str := if (Txt.slice x none (some 1) != Str.ofString " ") = true then Txt.stripChars x (Str.ofString " ") else Txt.rstripChars x (Str.ofString " ")
theorem kept_pos {x : Str} (h : (Txt.slice x none (some 1) != Str.ofString " ") = true) : keptOf x = Txt.stripChars x (Str.ofString " ") := if_pos h
theorem kept_neg {x : Str} (h : (Txt.slice x none (some 1) != Str.ofString " ") = false) : keptOf x = Txt.rstripChars x (Str.ofString " ") := if_neg (by rw [h]; decide)
theorem td_eq {prog : Program} {w : World} {o : Obj} {c : Bk} {i : Int} {v v' : Str} (e : v' = v) (T : TDict prog w o (sPut c i v)) : TDict prog w o (sPut c i v') := e ▸ T
set_option maxHeartbeats 8000000 in
theorem law_put_spec (B : Below A₀ base outer h₀) (F : Fr h₀ L s.heap m) (X : (hd.heap_39 w.params).In h₀) (N : News h₀ L s.heap news) (T : Top p loose mean mg mb h₀) (hk : cs.kind = .function) (hd : dp + 40 < recursionLimit) (hu : un + 400 < cLine)
   (d : Addr) (o : Obj) (c : Bk) (u : Obj → List (Addr × Obj)) (i : Int) (ti : Tok) (x : Str) (tx : Tok) (hm : (d, o) ∈ news) (U : UpdF d o news u) (lo : (d == sysModules) = false) (TD : TDict PR w o c) (hc : c.length < 64) (hx : x.length ≤ 1000) (h0 : 0 ≤ i)
   (retN : 65529 < i → ∀ t' h' tk', Fr h₀ L h' m → News h₀ L h' news → Q (.str (Str.ofString "SN") t') { s with heap := h', toks := tk' })
   (retS : i ≤ 65529 → (Txt.stripChars x (Str.ofString " ") != Str.ofString "") = true → ∀ t' o' h' tk', Fr h₀ L h' m → News h₀ L h' (u o') → TDict PR w o' (sPut c i (keptOf x)) → Q (.str (Str.ofString "") t') { s with heap := h', toks := tk' })
   (retP : i ≤ 65529 → (Txt.stripChars x (Str.ofString " ") != Str.ofString "") = false → sHas c i = true → ∀ t' o' h' tk', Fr h₀ L h' m → News h₀ L h' (u o') → TDict PR w o' (sDel c i) → Q (.str (Str.ofString "") t') { s with heap := h', toks := tk' })
   (retU : i ≤ 65529 → (Txt.stripChars x (Str.ofString " ") != Str.ofString "") = false → sHas c i = false → ∀ t' h' tk', Fr h₀ L h' m → News h₀ L h' news → Q (.str (Str.ofString "UL") t') { s with heap := h', toks := tk' }) :
   wpAny (model PySem.Challenge.rw_pc0001_01.row.prog w) (ktrTop dp un gd cn cs L a ccd cl outer) (call (.ref 159) [.ref d, .int i ti, .str x tx]) Q E s := by
  revert X; k_fill; intro X
  refine wpAny_call ?_
  k_dflt ktr_enter
  k_with_none
  repeat' (first
    | (k_unfold; (try dsimp only))
    | (k_end; wrow_close)
    | ((with_reducible show wpAny _ _ (compareOp CmpOp.In (Value.int _ _) (Value.ref _)) _ _ _); first | (with_reducible ((k_here; k_dflt (refine' td_in (by k_asm) (by k_mem) (by with_reducible assumption) (by with_reducible assumption) ?_)))) | ((k_here; k_dflt (refine' td_in (by k_asm) (by k_mem) (by with_reducible assumption) (by with_reducible assumption) ?_))))
    | (first | (with_reducible ((k_here; (with_reducible show wpAny _ _ (getMethod (Value.ref _) (Str.ofString "pop") _) _ _ _); k_dflt (refine' td_getpop (by k_asm) (by k_mem) (by with_reducible assumption) (by with_reducible assumption) ?_)))) | ((k_here; (with_reducible show wpAny _ _ (getMethod (Value.ref _) (Str.ofString "pop") _) _ _ _); k_dflt (refine' td_getpop (by k_asm) (by k_mem) (by with_reducible assumption) (by with_reducible assumption) ?_))))
    | ((with_reducible show wpAny _ _ (call (Value.builtin "dict.pop") _) _ _ _); first | (with_reducible ((k_here; k_dflt (refine' (fun a F N U T k c z1 => td_pop F N U T k c z1 a) (by exact PySem.F.args_dict_pop_2 _ _) (by k_asm) (by k_asm) (by with_reducible assumption) (by with_reducible assumption) (by with_reducible assumption) (by omega) ?_); intro _ _ _ _ _ _ _ _))) | ((k_here; k_dflt (refine' (fun a F N U T k c z1 => td_pop F N U T k c z1 a) (by exact PySem.F.args_dict_pop_2 _ _) (by k_asm) (by k_asm) (by with_reducible assumption) (by with_reducible assumption) (by with_reducible assumption) (by omega) ?_); intro _ _ _ _ _ _ _ _)))
    | ((with_reducible show wpAny _ _ (setItem (Value.ref _) (Value.int _ _) _) _ _ _); first | (with_reducible ((k_here; k_dflt (refine' td_set (by k_asm) (by k_asm) (by with_reducible assumption) (by with_reducible assumption) (by omega) ?_); intro _ _ _ _ _))) | ((k_here; k_dflt (refine' td_set (by k_asm) (by k_asm) (by with_reducible assumption) (by with_reducible assumption) (by omega) ?_); intro _ _ _ _ _)))
    | (first | (with_reducible ((k_here; (with_reducible show wpAny _ _ (call (Value.builtin "str.rstrip") [Value.str _ _, Value.str _ _]) _ _ _); refine SCL.rstripChars (hsz := by exact size_le (by with_reducible assumption)) ?_; intro _ _ _))) | ((k_here; (with_reducible show wpAny _ _ (call (Value.builtin "str.rstrip") [Value.str _ _, Value.str _ _]) _ _ _); refine SCL.rstripChars (hsz := by exact size_le (by with_reducible assumption)) ?_; intro _ _ _)))
    | (first | (with_reducible ((k_here; (with_reducible show wpAny _ _ (call (Value.builtin "str.strip") [Value.str _ _, Value.str _ _]) _ _ _); refine SCL.stripChars (hsz := by exact size_le (by with_reducible assumption)) ?_; intro _ _ _))) | ((k_here; (with_reducible show wpAny _ _ (call (Value.builtin "str.strip") [Value.str _ _, Value.str _ _]) _ _ _); refine SCL.stripChars (hsz := by exact size_le (by with_reducible assumption)) ?_; intro _ _ _)))
    | ((with_reducible show wpAny _ _ (exec _ _) _ _ _); k_here; k_fold; walk1)
    | walk1
    | (dsimp only; walk1)
    | (leave1; walk_say "STEP leave1"; try dsimp only)
    | fail "no step")
  · exact retN (by omega) _ _ _ (by with_reducible assumption) (by with_reducible assumption)
  · exact retS (by omega) (by with_reducible assumption) _ _ _ _ (by with_reducible assumption) (by with_reducible assumption) (td_eq (kept_pos (by with_reducible assumption)) (by with_reducible assumption))
  · exact retP (by omega) (by with_reducible assumption) (by with_reducible assumption) _ _ _ _ (by with_reducible assumption) (by with_reducible assumption) (by with_reducible assumption)
  · exact retU (by omega) (by with_reducible assumption) (by with_reducible assumption) _ _ _ (by with_reducible assumption) (by with_reducible assumption)
  · exact retS (by omega) (by with_reducible assumption) _ _ _ _ (by with_reducible assumption) (by with_reducible assumption) (td_eq (kept_neg (by with_reducible assumption)) (by with_reducible assumption))
  · exact retP (by omega) (by with_reducible assumption) (by with_reducible assumption) _ _ _ _ (by with_reducible assumption) (by with_reducible assumption) (by with_reducible assumption)
  · exact retU (by omega) (by with_reducible assumption) (by with_reducible assumption) _ _ _ (by with_reducible assumption) (by with_reducible assumption)
end
end Mine
end

/-! part P16 -/
section
open PySem PySem.W PyProof.Rows PyProof.V
open PySem.Spec PySem.Calls
set_option maxRecDepth 100000
set_option linter.unusedVariables false
namespace Mine
abbrev blank : Str := Str.ofString " "
abbrev tX (j : Nat) : Str := texts.getD j (Str.ofString "")
abbrev rX (f i j : Nat) : Str := pres.getD f (Str.ofString "") ++ Str.ofString (toString (numbers.getD i 0)) ++ Str.ofString " " ++ tX j
abbrev dX (j : Nat) : Str := Str.ofString "  " ++ Str.ofString "PRINT" ++ tX j
def keptTexts : List Str := [Str.ofString "PRINT 1", Str.ofString "  GOTO 10", Str.ofString "GOTO 10", Str.ofString "REM a  b", Str.ofString "END", Str.ofString "7 PRINT", Str.ofString "X=1:Y=2"]
def keys : List Int := [0, 10, 15, 20, 30, 65529]
def cF (c : Nat) : Bool := Nat.ble 48 c && Nat.ble c 57
theorem isFig_c : ∀ c, c < 128 → isFig c = cF c := by decide +kernel
abbrev cAt (x : Str) (i : Int) : Nat := (Txt.charAt x i).getD 0
theorem fg_is (x : Str) (i : Int) : fgQ x i = isFig (cAt x i) := by
  unfold fgQ isFig Txt.item
  rfl
def low (x : Str) : Bool := x.cps.all fun c => Nat.blt c 128
theorem cAt_low {x : Str} (h : low x = true) (i : Int) : cAt x i < 128 := by
  unfold cAt Txt.charAt
  cases hq : seqIndex? i x.length with
  | none => exact (by decide : 0 < 128)
  | some k =>
    show (x.cps[k]?).getD 0 < 128
    cases hk : x.cps[k]? with
    | none => exact (by decide : 0 < 128)
    | some c =>
      obtain ⟨hlt, e⟩ := Array.getElem?_eq_some_iff.mp hk
      have h1 := Array.all_eq_true.mp h k hlt
      rw [e] at h1
      exact Nat.le_of_ble_eq_true h1
theorem fg_eq {x : Str} (h : low x = true) : fgQ x = fun i => cF (cAt x i) := funext fun i => (fg_is x i).trans (isFig_c _ (cAt_low h i))
def eF (x : Str) : Int := runTo (fun i => cF (cAt x i)) (x.length - (pB x).toNat) (pB x)
theorem pE_eq {x : Str} (h : low x = true) : pE x = eF x := by
  show figsEnd x (pB x) = _
  unfold figsEnd eF
  rw [fg_eq h]
def gF (x : Str) : Str := Txt.slice x (some (pB x)) (some (eF x))
theorem pFig_eq {x : Str} (h : low x = true) : pFig x = gF x := by
  show Txt.slice x (some (pB x)) (some (pE x)) = Txt.slice x (some (pB x)) (some (eF x))
  rw [pE_eq h]
def restF (x : Str) : Str := if (Txt.slice x (some (eF x)) (some (eF x + 1)) == Str.ofString " ") = true then Txt.slice x (some (eF x + 1)) none else Txt.slice x (some (eF x)) none
theorem pRest_eq {x : Str} (h : low x = true) : pRest x = restF x := by
  unfold pRest restF
  rw [pE_eq h]
theorem allF {a : Array Nat} (h : a.all cF = true) : a.all isFig = true := by
  refine Array.all_eq_true.mpr fun i hi => ?_
  have h1 := Array.all_eq_true.mp h i hi
  have h2 : a[i] ≤ 57 := Nat.le_of_ble_eq_true (Bool.and_eq_true_iff.mp h1).2
  exact (isFig_c _ (Nat.lt_of_le_of_lt h2 (by decide))).trans h1
theorem dig_c : ∀ c : Nat, c < 58 → 48 ≤ c → digAt (c : Int) = (c : Int) - 48 := by decide +kernel
def stepF (f : Int) (c : Nat) : Int := if 65529 + 1 < 10 * f + ((c : Int) - 48) then 65529 + 1 else 10 * f + ((c : Int) - 48)
theorem step_c {c : Nat} (h : cF c = true) (f : Int) : numStep f (c : Int) = stepF f c := by
  have h2 := Bool.and_eq_true_iff.mp h
  unfold numStep stepF
  rw [dig_c c (Nat.lt_succ_of_le (Nat.le_of_ble_eq_true h2.2)) (Nat.le_of_ble_eq_true h2.1)]
theorem num_go : ∀ (l : List Nat) (a : Int), l.all cF = true → (l.map fun (c : Nat) => (c : Int)).foldl numStep a = l.foldl stepF a
  | [], _, _ => rfl
  | c :: r, a, h => by
    rw [List.all_cons, Bool.and_eq_true_iff] at h
    rw [List.map_cons, List.foldl_cons, List.foldl_cons, step_c h.1]
    exact num_go r _ h.2
theorem num_eq {x : Str} (h : x.cps.all cF = true) : numTold (KStt.codes x) = x.cps.toList.foldl stepF 0 := by
  unfold numTold KStt.codes
  exact num_go _ _ (by rw [Array.all_toList]; exact h)
theorem facts_F : ∀ f, f < 3 → ∀ i, i < 8 → ∀ j, j < 8 → (low (rX f i j) = true ∧ (rX f i j).length ≤ 1000 ∧ (gF (rX f i j)).cps.all cF = true ∧ eF (rX f i j) ≠ pB (rX f i j)) ∧ (gF (rX f i j)).cps.toList.foldl stepF 0 = min (numbers.getD i 0) 65530 ∧ restF (rX f i j) = tX j := by decide +kernel
theorem facts_in1 : ∀ f, f < 3 → ∀ i, i < 8 → ∀ j, j < 8 → (rX f i j).length ≤ 1000 ∧ (pFig (rX f i j)).cps.all isFig = true ∧ pE (rX f i j) ≠ pB (rX f i j) := fun f hf i hi j hj => by
  obtain ⟨⟨a, b, c, d⟩, _⟩ := facts_F f hf i hi j hj
  exact ⟨b, by rw [pFig_eq a]; exact allF c, by rw [pE_eq a]; exact d⟩
theorem facts_in2 : ∀ f, f < 3 → ∀ i, i < 8 → ∀ j, j < 8 → pNum (rX f i j) = min (numbers.getD i 0) 65530 ∧ pRest (rX f i j) = tX j := fun f hf i hi j hj => by
  obtain ⟨⟨a, _, c, _⟩, e, g⟩ := facts_F f hf i hi j hj
  exact ⟨by show numTold (KStt.codes (pFig _)) = _; rw [pFig_eq a, num_eq c]; exact e, by rw [pRest_eq a]; exact g⟩
theorem facts_dir : ∀ j, j < 8 → (dX j).length ≤ 1000 ∧ (pFig (dX j)).cps.all isFig = true ∧ pE (dX j) = pB (dX j) ∧ 0 ≤ pNum (dX j) ∧ pNum (dX j) ≤ 65529 ∧ (pRest (dX j)).length ≤ 1000 ∧ Txt.slice (dX j) (some (pB (dX j))) none = Str.ofString "PRINT" ++ tX j := by decide +kernel
theorem facts_text : ∀ j, j < 8 → (Txt.stripChars (tX j) blank != Str.ofString "") = true → keptOf (tX j) = Txt.rstripChars (tX j) blank ∧ Txt.rstripChars (tX j) blank ∈ keptTexts ∧ Txt.stripChars (tX j) blank ∈ keptTexts := by decide +kernel
theorem facts_row1 : ∀ k ∈ keys, ∀ x ∈ keptTexts, (rowOf k x).length ≤ 1000 ∧ (pFig (rowOf k x)).cps.all isFig = true ∧ pE (rowOf k x) ≠ pB (rowOf k x) ∧ (Txt.stripChars (rowOf k x) (Str.ofString " \t\r") != Str.ofString "") = true := by decide +kernel
theorem facts_row2 : ∀ k ∈ keys, ∀ x ∈ keptTexts, pNum (rowOf k x) = k ∧ pRest (rowOf k x) = x ∧ Txt.rstripChars x blank = x ∧ (Txt.stripChars x blank != Str.ofString "") = true ∧ x.length ≤ 1000 := by decide +kernel
theorem facts_num : ∀ i, i < 8 → numbers.getD i 0 ≤ 65529 → numbers.getD i 0 ∈ keys := by decide +kernel
theorem facts_num5 : ∀ i, i < 5 → numbers.getD i 0 ∈ keys := by decide +kernel
theorem keys_bnd : ∀ k ∈ keys, 0 ≤ k ∧ k ≤ 65529 := by decide +kernel
end Mine
end

/-! part P17 -/
section
open PySem PySem.W PyProof.Rows PyProof.V
open PySem.Spec PySem.Calls
set_option maxRecDepth 100000
set_option linter.unusedVariables false
namespace Mine
theorem toNat_lt {a : Int} {k : Nat} (h : a < (k : Int)) (hk : 0 < k) : a.toNat < k := by omega
theorem i8 (n : Int) : (Int.fmod n 8).toNat < 8 := toNat_lt (fmod_hi n (by decide)) (by decide)
theorem rowIn_eq (n : Int) : rowIn n = rX (formOf n).toNat (Int.fmod n 8).toNat (Int.fmod (Int.fdiv n 8) 8).toNat := by with_unfolding_all rfl
theorem form_lt {n : Int} (h : formOf n ≠ 3) : (formOf n).toNat < 3 := toNat_lt (lt3 h) (by decide)
structure InFacts (r : Str) (i : Int) (x : Str) : Prop where
  len : r.length ≤ 1000
  fig : (pFig r).cps.all isFig = true
  num : pE r ≠ pB r
  val : pNum r = min i 65530
  rest : pRest r = x
theorem in_facts {n : Int} (h : formOf n ≠ 3) : InFacts (rowIn n) (lineOf n) (textOf n) := by
  have a := facts_in1 _ (form_lt h) _ (i8 n) _ (i8 (Int.fdiv n 8))
  have b := facts_in2 _ (form_lt h) _ (i8 n) _ (i8 (Int.fdiv n 8))
  with_unfolding_all exact ⟨a.1, a.2.1, a.2.2, b.1, b.2⟩
structure DirFacts (r x : Str) : Prop where
  len : r.length ≤ 1000
  fig : (pFig r).cps.all isFig = true
  num : pE r = pB r
  lo : 0 ≤ pNum r
  hi : pNum r ≤ 65529
  rest : (pRest r).length ≤ 1000
  cut : Txt.slice r (some (pB r)) none = x
theorem dir_facts (n : Int) : DirFacts (rowDir n) (dirOf n) := by
  obtain ⟨a, b, c, d, e, f, g⟩ := facts_dir _ (i8 (Int.fdiv n 8))
  with_unfolding_all exact ⟨a, b, c, d, e, f, g⟩
theorem line_bnd (n : Int) : 0 ≤ lineOf n := by unfold lineOf; exact (numAt_bnd _).1
theorem text_len (n : Int) : (textOf n).length ≤ 1000 := by unfold textOf; exact txtAt_len _
/-! the invariant -/
structure Inv (c : Bk) : Prop where
  nod : kNodup c
  key : ∀ q ∈ c, q.1 ∈ keys
  txt : ∀ q ∈ c, q.2 ∈ keptTexts
theorem inv_nil : Inv [] := ⟨List.nodup_nil, (fun _ h => nomatch h), (fun _ h => nomatch h)⟩
theorem sPut_keys {c : Bk} {k : Int} {v : Str} : (sPut c k v).map (·.1) = if sHas c k then c.map (·.1) else c.map (·.1) ++ [k] := by
  unfold sPut
  split
  · rw [List.map_map]
    refine List.map_congr_left fun p _ => ?_
    show (if decide (p.1 = k) = true then (p.1, v) else p).1 = p.1
    split <;> rfl
  · rw [List.map_append]; rfl
theorem sPut_mem {c : Bk} {k : Int} {v : Str} {q : Int × Str} (h : q ∈ sPut c k v) : q ∈ c ∨ q = (k, v) := by
  unfold sPut at h
  split at h
  · obtain ⟨p, hp, e⟩ := List.mem_map.mp h
    split at e
    · rename_i hk
      exact .inr (by rw [← e, of_decide_eq_true hk])
    · exact .inl (e ▸ hp)
  · rcases List.mem_append.mp h with h | h
    · exact .inl h
    · exact .inr (List.mem_singleton.mp h)
theorem has_mem {c : Bk} {k : Int} : sHas c k = true ↔ k ∈ c.map (·.1) := by
  unfold sHas
  rw [List.any_eq_true]
  constructor
  · rintro ⟨p, hp, e⟩
    exact List.mem_map.mpr ⟨p, hp, of_decide_eq_true e⟩
  · intro h
    obtain ⟨p, hp, e⟩ := List.mem_map.mp h
    exact ⟨p, hp, decide_eq_true e⟩
theorem nodup_put {c : Bk} {k : Int} {v : Str} (h : kNodup c) : kNodup (sPut c k v) := by
  unfold kNodup
  rw [sPut_keys]
  split
  · exact h
  · rename_i hk
    refine List.nodup_append.mpr ⟨h, List.nodup_cons.mpr ⟨(fun h => nomatch h), List.nodup_nil⟩, fun a ha b hb => ?_⟩
    rw [List.mem_singleton.mp hb]
    rintro rfl
    exact hk (has_mem.mpr ha)
theorem nodup_del {c : Bk} {k : Int} (h : kNodup c) : kNodup (sDel c k) := by
  unfold kNodup sDel
  exact (List.filter_sublist.map _).nodup h
theorem inv_put {c : Bk} {k : Int} {v : Str} (h : Inv c) (hk : k ∈ keys) (hv : v ∈ keptTexts) : Inv (sPut c k v) :=
  ⟨nodup_put h.nod, fun q hq => (sPut_mem hq).elim (h.key q) (fun e => e ▸ hk), fun q hq => (sPut_mem hq).elim (h.txt q) (fun e => e ▸ hv)⟩
theorem inv_del {c : Bk} {k : Int} (h : Inv c) : Inv (sDel c k) :=
  ⟨nodup_del h.nod, fun q hq => h.key q (List.mem_filter.mp hq).1, fun q hq => h.txt q (List.mem_filter.mp hq).1⟩
theorem inv_delAll : ∀ {ns : List Int} {c : Bk}, Inv c → Inv (sDelAll c ns)
  | [], _, h => h
  | k :: r, c, h => inv_delAll (ns := r) (inv_del (k := k) h)
theorem pigeon : ∀ {l ks : List Int}, l.Nodup → (∀ k ∈ l, k ∈ ks) → l.length ≤ ks.length
  | [], _, _, _ => Nat.zero_le _
  | a :: r, ks, hn, hs => by
    have ha := hs a (.head _)
    have hr := pigeon (l := r) (ks := ks.erase a) (List.nodup_cons.mp hn).2 fun k hk => (List.mem_erase_of_ne (fun (q : k = a) => (List.nodup_cons.mp hn).1 (q ▸ hk))).mpr (hs k (.tail _ hk))
    rw [List.length_erase_of_mem ha] at hr
    have : 0 < ks.length := List.length_pos_of_mem ha
    rw [List.length_cons]; omega
theorem inv_len {c : Bk} (h : Inv c) : c.length ≤ 6 := by
  have e : (c.map (·.1)).length ≤ keys.length := pigeon h.nod fun k hk => by
    obtain ⟨q, hq, rfl⟩ := List.mem_map.mp hk
    exact h.key q hq
  rwa [List.length_map] at e
theorem kept_len : ∀ x ∈ keptTexts, x.length ≤ 1000 := by decide +kernel
theorem inv_ok {c : Bk} (h : Inv c) : OkB c :=
  ⟨h.nod, by have := inv_len h; omega, fun q hq => (keys_bnd _ (h.key q hq)).1, fun q hq => (keys_bnd _ (h.key q hq)).2, fun q hq => kept_len _ (h.txt q hq)⟩
/-! rows -/
def allRows (c : Bk) : List Str := (within c 0 65529).map (rowAt c)
theorem within_all {c : Bk} (h : Inv c) : within c 0 65529 = skeys c := by
  unfold within
  refine List.filter_eq_self.mpr fun k hk => ?_
  have hk' := (skeys_perm c).mem_iff.mp hk
  obtain ⟨q, hq, rfl⟩ := List.mem_map.mp hk'
  have := keys_bnd _ (h.key q hq)
  simp [this.1, this.2]
theorem row_at {c : Bk} (h : Inv c) {k : Int} (hk : k ∈ skeys c) : ∃ x, (k, x) ∈ c ∧ rowAt c k = rowOf k x ∧ sLook c k = some x := by
  have hk' := (skeys_perm c).mem_iff.mp hk
  obtain ⟨q, hq, rfl⟩ := List.mem_map.mp hk'
  have e := sLook_mem h.nod hq
  exact ⟨q.2, hq, by unfold rowAt; rw [e]; rfl, e⟩
theorem rows_ok {c : Bk} (h : Inv c) : ∀ r ∈ allRows c, RowOk r := by
  intro r hr
  obtain ⟨k, hk, rfl⟩ := List.mem_map.mp hr
  rw [within_all h] at hk
  obtain ⟨x, hx, e, _⟩ := row_at h hk
  rw [e]
  have hk1 := h.key _ hx
  have hx1 := h.txt _ hx
  obtain ⟨a1, a2, a3, a4⟩ := facts_row1 _ hk1 _ hx1
  obtain ⟨b1, b2, b3, b4, b5⟩ := facts_row2 _ hk1 _ hx1
  have hb := keys_bnd _ hk1
  simp only at a1 a2 a3 a4 b1 b2 b3 b4 b5 hb
  exact ⟨⟨a1, a2, by rw [b1]; exact hb.1, by rw [b1]; exact hb.2, by rw [b2]; exact b5, a4⟩, a3, by rw [b2]; exact b4⟩
theorem rows_len {c : Bk} (h : Inv c) : (allRows c).length < 64 := by
  unfold allRows
  rw [List.length_map]
  exact within_len (inv_ok h).len
theorem sPut_new {c : Bk} {k : Int} {v : Str} (h : sHas c k = false) : sPut c k v = c ++ [(k, v)] := by
  unfold sPut; rw [if_neg (by rw [h]; decide)]
theorem rows_fold {c : Bk} (h : Inv c) : ∀ (ks : List Int) (c₀ : Bk), ks.Nodup → (∀ k ∈ ks, k ∈ skeys c) → (∀ k ∈ ks, k ∉ c₀.map (·.1)) →
    (ks.map (rowAt c)).foldl (fun c r => sPut c (pNum r) (Txt.rstripChars (pRest r) (Str.ofString " "))) c₀ = c₀ ++ ks.map fun k => (k, (sLook c k).getD (Str.ofString ""))
  | [], c₀, _, _, _ => by simp
  | k :: r, c₀, hn, hs, h0 => by
    obtain ⟨x, hx, e, hl⟩ := row_at h (hs k (.head _))
    have hk1 := h.key _ hx
    have hx1 := h.txt _ hx
    obtain ⟨b1, b2, b3, b4, b5⟩ := facts_row2 _ hk1 _ hx1
    simp only at b1 b2 b3 b4 b5
    rw [List.map_cons, List.foldl_cons, e, b1, b2, b3]
    have hz : sHas c₀ k = false := by
      cases q : sHas c₀ k with
      | false => rfl
      | true => exact absurd (has_mem.mp q) (h0 k (.head _))
    rw [sPut_new hz, rows_fold h r _ (List.nodup_cons.mp hn).2 (fun k' hk' => hs k' (.tail _ hk')) (fun k' hk' => ?_), List.map_cons, hl, List.append_assoc]
    · rfl
    · rw [List.map_append, List.mem_append, not_or]
      refine ⟨h0 k' (.tail _ hk'), fun q => ?_⟩
      have : k' = k := by simpa using q
      exact (List.nodup_cons.mp hn).1 (this ▸ hk')
theorem rows_perm {c : Bk} (h : Inv c) : (rowsTo (allRows c)).Perm c := by
  have hsn : (skeys c).Nodup := (skeys_perm c).symm.nodup h.nod
  unfold rowsTo allRows
  rw [within_all h, rows_fold h (skeys c) [] hsn (fun _ h => h) (fun _ _ h => nomatch h), List.nil_append]
  have e : (c.map (·.1)).map (fun k => (k, (sLook c k).getD (Str.ofString ""))) = c := by
    rw [List.map_map]
    conv => rhs; rw [← List.map_id c]
    refine List.map_congr_left fun q hq => ?_
    show (q.1, (sLook c q.1).getD (Str.ofString "")) = q
    rw [sLook_mem h.nod hq]; rfl
  exact ((skeys_perm c).map _).trans (by rw [e])
end Mine
end

/-! part P18a -/
section
open PySem PySem.W PyProof.Rows PyProof.V
open PySem.Spec PySem.Calls
set_option maxRecDepth 100000
set_option linter.unusedVariables false
namespace Mine
/-! the code tables of the defs with lambdas -/
def codeOb (nm : String) (t0 line argc a8 tab : Nat) (v12 v13 v14 : Value) (a15 i16 : Nat) : Array Value := #[.str (Str.ofString nm) t0, .str (Str.ofString nm) (t0 + 1), .str (Str.ofString "/claim/cut.py") (t0 + 2), .int line 0, .int argc 0, .int 0 0, .int 0 0, .int 3 0, .ref a8, .bool true, .int 181 0, .ref tab, v12, v13, v14, .ref a15, .int i16 0, .int line 0, .str (Str.ofString "/claim/cut.py") (i16 + 1)]
theorem look165 (P : Params) : (hd.heap_39 P).lookup 165 = some ⟨.type "code", none, .fields (codeOb "_law_entered" 380 98 3 160 161 .none (.ref 162) (.ref 163) 164 391), #[]⟩ := by kernel_rfl
theorem look170 (P : Params) : (hd.heap_39 P).lookup 170 = some ⟨.type "code", none, .fields (codeOb "_law_deed" 394 104 3 167 168 .none .none .none 169 397), #[]⟩ := by kernel_rfl
theorem look175 (P : Params) : (hd.heap_39 P).lookup 175 = some ⟨.type "code", none, .fields (codeOb "law" 400 124 1 172 173 .none .none .none 174 403), #[]⟩ := by kernel_rfl
theorem chd165 {P : Params} {h : Heap} (X : (hd.heap_39 P).In h) : CodeHd h 165 161 := ⟨_, _, _, _, _, _, _, _, _, X _ _ (look165 P), rfl, rfl, rfl, rfl, rfl, rfl, rfl, rfl, by decide⟩
theorem chd170 {P : Params} {h : Heap} (X : (hd.heap_39 P).In h) : CodeHd h 170 168 := ⟨_, _, _, _, _, _, _, _, _, X _ _ (look170 P), rfl, rfl, rfl, rfl, rfl, rfl, rfl, rfl, by decide⟩
theorem chd175 {P : Params} {h : Heap} (X : (hd.heap_39 P).In h) : CodeHd h 175 173 := ⟨_, _, _, _, _, _, _, _, _, X _ _ (look175 P), rfl, rfl, rfl, rfl, rfl, rfl, rfl, rfl, by decide⟩
/-- what the table holds are codes of one name, in the ledger -/
structure TabGood (qual : Str) (ps : Array Value) (news : List (Addr × Obj)) : Prop where
  tri : TriplesOk ps.toList
  hit : ∀ pos v, codeAmong pos ps.toList = some v → ∃ c oc vs t, v = .ref c ∧ (c, oc) ∈ news ∧ oc.data = .fields vs ∧ vs[1]? = some (.str qual t)
theorem tab_nil {qual : Str} {news : List (Addr × Obj)} : TabGood qual #[] news := ⟨trivial, fun _ _ h => nomatch h⟩
theorem TabGood.sub {qual : Str} {ps : Array Value} {news news' : List (Addr × Obj)} (x : TabGood qual ps news) (k : ∀ q ∈ news, q ∈ news') : TabGood qual ps news' :=
  ⟨x.tri, fun pos v h => let ⟨c, oc, vs, t, a, b, r⟩ := x.hit pos v h; ⟨c, oc, vs, t, a, k _ b, r⟩⟩
theorem codeAmong_app {pos : Pos} {a b : Int} {c v : Value} (l : List Value) (h : TriplesOk l) (hv : codeAmong pos (l ++ [rawInt a, rawInt b, c]) = some v) : codeAmong pos l = some v ∨ v = c := by
  fun_induction TriplesOk l with
  | case1 =>
    simp only [List.nil_append, codeAmong, rawInt] at hv
    split at hv
    · exact .inr (Option.some.inj hv).symm
    · cases hv
  | case2 a' t b' u x rest ih =>
    simp only [List.cons_append, codeAmong] at hv ⊢
    split at hv
    · rename_i hc; rw [if_pos hc]; exact .inl hv
    · rename_i hc; rw [if_neg hc]; exact ih h hv
  | case3 l h1 h2 => exact h.elim
theorem TabGood.snoc {qual : Str} {ps : Array Value} {news : List (Addr × Obj)} {a b : Int} {c : Addr} {oc : Obj} {vs : Array Value} {t : Tok} (x : TabGood qual ps news) (hd : oc.data = .fields vs) (hv : vs[1]? = some (.str qual t)) :
    TabGood qual (ps ++ #[rawInt a, rawInt b, .ref c]) ((c, oc) :: news) := by
  have e : (ps ++ #[rawInt a, rawInt b, .ref c]).toList = ps.toList ++ [rawInt a, rawInt b, .ref c] := by simp
  refine ⟨by rw [e]; exact TriplesOk_snoc a b _ _ x.tri, fun pos v h => ?_⟩
  rw [e] at h
  rcases codeAmong_app _ x.tri h with h | rfl
  · obtain ⟨c', oc', vs', t', e1, e2, e3⟩ := x.hit pos v h
    exact ⟨c', oc', vs', t', e1, .tail _ e2, e3⟩
  · exact ⟨c, oc, vs, t, rfl, .head _, hd, hv⟩
/-! the ledger of the two dicts and the two tables -/
abbrev qualE : Str := Str.ofString "_law_entered" ++ Str.ofString ".<locals>." ++ Str.ofString "<lambda>"
abbrev qualD : Str := Str.ofString "_law_deed" ++ Str.ofString ".<locals>." ++ Str.ofString "<lambda>"
abbrev ledOf (d : Addr) (o : Obj) (b : Addr) (ob : Obj) (ps qs : Array Value) (rest : List (Addr × Obj)) : List (Addr × Obj) := (d, o) :: (b, ob) :: (161, tabObj ps) :: (168, tabObj qs) :: rest
structure LedOk (w : World) (d : Addr) (o : Obj) (b : Addr) (ob : Obj) (ps qs : Array Value) (rest : List (Addr × Obj)) (c : Bk) : Prop where
  td : TDict PR w o c
  tb : TDict PR w ob c
  lod : (d == sysModules) = false
  lob : (b == sysModules) = false
  db : d ≠ b
  d1 : d ≠ 161
  d2 : d ≠ 168
  b1 : b ≠ 161
  b2 : b ≠ 168
  rd : ∀ q ∈ rest, q.1 ≠ d
  rb : ∀ q ∈ rest, q.1 ≠ b
  r1 : ∀ q ∈ rest, q.1 ≠ 161
  r2 : ∀ q ∈ rest, q.1 ≠ 168
  te : TabGood qualE ps rest
  tq : TabGood qualD qs rest
end Mine
end

/-! part P19 -/
section
open PySem PySem.W PyProof.Rows PyProof.V
open PySem.Spec PySem.Calls
set_option maxRecDepth 100000
set_option linter.unusedVariables false
namespace Mine
theorem fresh_P19 : True := by
  w_top off
  trivial
abbrev scH : Scope := { kind := ScopeKind.function, names := [(Str.ofString "work", NameKind.local), (Str.ofString "refusal", NameKind.local), (Str.ofString "BasicError", NameKind.globalImplicit)], isGenerator := false, isCoroutine := false }
abbrev envH (L : Addr) : Env := envOf (Str.ofString "_law_heard") scH L 145 (.ref 144)
theorem news_d1 {g h : Heap} {L : Addr} {p p1 : Addr × Obj} {news : List (Addr × Obj)} (N : News g L h (p :: p1 :: news)) : News g L h (p :: news) := fun q hq => N q (by
  rcases List.mem_cons.mp hq with rfl | hq
  · exact List.mem_cons_self
  · exact List.mem_cons_of_mem _ (List.mem_cons_of_mem _ hq))
section
variable {w : World} {p : Program} {loose : List Str} {mean : ExcName → Option Value} {mg mb : Str → Option Value} {dp un : Nat} {gd : Option (List Code)} {cn : Str} {cs : Scope} {a : Addr} {ccd : Value} {cl : List (Str × Addr)} {outer : List Env} {A₀ : Around} {base h₀ : Heap} {L : Addr} {m : Str → Option Value} {news : List (Addr × Obj)} {s : Shared}
    {Q E : Value → Shared → Prop}
theorem callWith_fn {M : Model} {A : Around} {env : Env} {pos : Pos} {f : Addr} {fd : FuncData} {of : Obj} (N : News h₀ L s.heap news) (hm : (f, of) ∈ news) (hd : of.data = .func fd) (h : wpAny M A (call (.ref f) ([] ++ [])) Q E s) :
    wpAny M A (callWith pos (.ref f) [] (backTo pos (starEach [] env)) []) Q E s := by
  obtain ⟨oc, od, dt, sl⟩ := of
  cases hd
  exact callWith_F0 ⟨oc, od, fd, sl, (N _ hm).1⟩ h
local macro_rules | `(tactic| k_mem) => `(tactic| first | (with_reducible assumption) | exact List.mem_cons_self | (refine List.mem_cons_of_mem _ ?_; k_mem))
set_option maxHeartbeats 8000000 in
theorem heard_spec (OKV : Value → List (Addr × Obj) → Prop) (OKE : Str → List (Addr × Obj) → Prop) (B : Below A₀ base outer h₀) (F : Fr h₀ L s.heap m) (X : (hd.heap_39 w.params).In h₀) (T : Top p loose mean mg mb h₀) (XB : (hd.heap_39 w.params).In base) (TB : Top p loose mean mg mb base) (D : KtsDicts (frs outer) h₀) (hk : cs.kind = .function) (hd : dp + 80 < recursionLimit) (hu : un + 800 < cLine)
   (f : Addr) (N : News h₀ L s.heap news) (of : Obj) (fd : FuncData) (hf : (f, of) ∈ news) (hfd : of.data = .func fd)
   (work : ∀ (g : Heap) (L' : Addr) (h₁ : Heap) (tk : Nat) (mH : Str → Option Value) (Q' E' : Value → Shared → Prop), Fr h₀ L g m → Fr g L' h₁ mH → News g L' h₁ news → Below (ktrTop dp un gd cn cs L a ccd cl outer) base (envX cn cs L a ccd cl :: outer) g → (Mine.hd.heap_39 w.params).In g → Top p loose mean mg mb g →
     (∀ v news' h' tk', OKV v news' → Fr g L' h' mH → News g L' h' news' → Q' v { s with heap := h', toks := tk' }) →
     (∀ code news', OKE code news' → RaiseTo base g L' mH (envH L' :: envX cn cs L a ccd cl :: outer) news' code E' s) →
     wpAny (model PySem.Challenge.rw_pc0001_01.row.prog w) ((ktrTop dp un gd cn cs L a ccd cl outer).deeper (envH L')) (call (.ref f) []) Q' E' { s with heap := h₁, toks := tk })
   (retv : ∀ v news', OKV v news' → ∀ h₀' D t h' tk', KtsTurn (frs outer) h₀ h₀' → Below A₀ base outer h₀' → KtsDicts (frs outer) h₀' → Fr h₀' L h' m → News h₀' L h' ((D, tupObj [.str (Str.ofString "value") t, v]) :: news') → Q (.ref D) { s with heap := h', toks := tk' })
   (rete : ∀ code news', OKE code news' → ∀ h₀' D t tc h' tk', KtsTurn (frs outer) h₀ h₀' → Below A₀ base outer h₀' → KtsDicts (frs outer) h₀' → Fr h₀' L h' m → News h₀' L h' ((D, tupObj [.str (Str.ofString "refused") t, .str code tc]) :: news') → Q (.ref D) { s with heap := h', toks := tk' }) :
   wpAny (model PySem.Challenge.rw_pc0001_01.row.prog w) (ktrTop dp un gd cn cs L a ccd cl outer) (call (.ref 145) [.ref f]) Q E s := by
  revert X; k_fill; intro X
  refine wpAny_call ?_
  k_dflt (refine' code_defTP ?k1 ?k2 ?k3 ?k4 ?k5 ?kd ?kA ?kF ?kK ?k6 ?k7 ?k8 ?k9 ?kB ?_ ?c1 ?c2 ?c3 ?c4; (case kA => exact rfl); (case kF => exact rfl); (case kK => assumption); (case k1 => k_asm); (case k2 => k_asm); (case k3 => k_asm); (case k4 => k_asm); (case k5 => k_asm); (case kd => assumption); (case k6 => k_is); (case k7 => k_is); (case k8 => ktr_room); (case k9 => exact BindsTo.of_eq rfl); (case kB => exact locs rfl); (case c1 => decide); (case c2 => exact rfl); (case c3 => exact rfl); (case c4 => exact rfl); k_whole; intro g' L' h' FG' F' N' B' X' T' D' T0' l1; (try dsimp only); (try k_fold))
  k_with_none
  repeat' (first
    | (k_unfold; (try dsimp only))
    | (k_end; wrow_close)
    | ((with_reducible show LeaveT _ _ _ _ _ _ _ _ _ _ _); first | (with_reducible ((k_dflt (refine' (fun F N T z1 => leaveT_ T F N z1) (by k_asm) (by k_asm) (by assumption) ?_; k_whole); intro _ _ _ _ _ _))) | ((k_dflt (refine' (fun F N T z1 => leaveT_ T F N z1) (by k_asm) (by k_asm) (by assumption) ?_; k_whole); intro _ _ _ _ _ _)))
    | ((with_reducible show wpAny _ _ (callWith _ (Value.ref _) _ _ _) _ _ _); first | (with_reducible ((k_here; k_dflt (refine' callWith_fn (by k_asm) (by assumption) (by assumption) ?_)))) | ((k_here; k_dflt (refine' callWith_fn (by k_asm) (by assumption) (by assumption) ?_))))
    | (first | (with_reducible ((k_here; (with_reducible show wpAny _ _ (eval (Expr.Call (Expr.Name _ _) _ [] _) _) _ _ _); k_dflt (refine Call_ ?_)))) | ((k_here; (with_reducible show wpAny _ _ (eval (Expr.Call (Expr.Name _ _) _ [] _) _) _ _ _); k_dflt (refine Call_ ?_))))
    | ((with_reducible show wpAny _ _ (exec (Stmt.Try _ _ _ _ _) _) _ _ _); first | (with_reducible ((k_here; k_dflt (refine wpAny_Try_except ?_)))) | ((k_here; k_dflt (refine wpAny_Try_except ?_))))
    | ((with_reducible show wpAny _ _ (exec _ _) _ _ _); k_here; k_fold; walk1)
    | walk1
    | (dsimp only; walk1)
    | (leave1; walk_say "STEP leave1"; try dsimp only)
    | fail "no step")
  refine work g' L' h' _ _ _ _ FG' F' N' B' X' T' (fun v news' h'' tk' hv F'' N'' => ?_) (fun code news' hE g₂ e dx odx h'' tk' FG'' R u hD => ?_)
  · repeat' (first
      | (k_unfold; (try dsimp only))
      | (k_end; wrow_close)
      | ((with_reducible show LeaveT _ _ _ _ _ _ _ _ _ _ _); first | (with_reducible ((k_dflt (refine' (fun F N T z1 => leaveT_ T F N z1) (by k_asm) (by k_asm) (by assumption) ?_; k_whole); intro _ _ _ _ _ _))) | ((k_dflt (refine' (fun F N T z1 => leaveT_ T F N z1) (by k_asm) (by k_asm) (by assumption) ?_; k_whole); intro _ _ _ _ _ _)))
      | ((with_reducible show wpAny _ _ (callWith _ (Value.ref _) _ _ _) _ _ _); first | (with_reducible ((k_here; k_dflt (refine' callWith_fn (by k_asm) (by assumption) (by assumption) ?_)))) | ((k_here; k_dflt (refine' callWith_fn (by k_asm) (by assumption) (by assumption) ?_))))
      | (first | (with_reducible ((k_here; (with_reducible show wpAny _ _ (eval (Expr.Call (Expr.Name _ _) _ [] _) _) _ _ _); k_dflt (refine Call_ ?_)))) | ((k_here; (with_reducible show wpAny _ _ (eval (Expr.Call (Expr.Name _ _) _ [] _) _) _ _ _); k_dflt (refine Call_ ?_))))
      | ((with_reducible show wpAny _ _ (exec (Stmt.Try _ _ _ _ _) _) _ _ _); first | (with_reducible ((k_here; k_dflt (refine wpAny_Try_except ?_)))) | ((k_here; k_dflt (refine wpAny_Try_except ?_))))
      | ((with_reducible show wpAny _ _ (exec _ _) _ _ _); k_here; k_fold; walk1)
      | walk1
      | (dsimp only; walk1)
      | (leave1; walk_say "STEP leave1"; try dsimp only)
      | fail "no step")
    exact retv v news' hv _ _ _ _ _ (by assumption) (by assumption) (by assumption) (by assumption) (by assumption)
  · obtain ⟨tc, told, hD⟩ := hD
    refine caughtD R FG'' B' u XB TB D' T0' hD (by k_is) (fun h3 g3 tk3 T3 F3 N3 I3 B3 X3 P3 D3 => ?_)
    repeat' (first
      | (k_unfold; (try dsimp only))
      | (k_end; wrow_close)
      | ((with_reducible show LeaveT _ _ _ _ _ _ _ _ _ _ _); first | (with_reducible ((k_dflt (refine' (fun F N T z1 => leaveT_ T F N z1) (by k_asm) (by k_asm) (by assumption) ?_; k_whole); intro _ _ _ _ _ _))) | ((k_dflt (refine' (fun F N T z1 => leaveT_ T F N z1) (by k_asm) (by k_asm) (by assumption) ?_; k_whole); intro _ _ _ _ _ _)))
      | ((with_reducible show wpAny _ _ (callWith _ (Value.ref _) _ _ _) _ _ _); first | (with_reducible ((k_here; k_dflt (refine' callWith_fn (by k_asm) (by assumption) (by assumption) ?_)))) | ((k_here; k_dflt (refine' callWith_fn (by k_asm) (by assumption) (by assumption) ?_))))
      | (first | (with_reducible ((k_here; (with_reducible show wpAny _ _ (eval (Expr.Call (Expr.Name _ _) _ [] _) _) _ _ _); k_dflt (refine Call_ ?_)))) | ((k_here; (with_reducible show wpAny _ _ (eval (Expr.Call (Expr.Name _ _) _ [] _) _) _ _ _); k_dflt (refine Call_ ?_))))
      | ((with_reducible show wpAny _ _ (exec (Stmt.Try _ _ _ _ _) _) _ _ _); first | (with_reducible ((k_here; k_dflt (refine wpAny_Try_except ?_)))) | ((k_here; k_dflt (refine wpAny_Try_except ?_))))
      | ((with_reducible show wpAny _ _ (exec _ _) _ _ _); k_here; k_fold; walk1)
      | walk1
      | (dsimp only; walk1)
      | (leave1; walk_say "STEP leave1"; try dsimp only)
      | fail "no step")
    refine load_exc (P := w.params) (X3.keeps F3.keep) I3 (v := .str code tc) (by unfold mEx; rw [if_neg (by decide), if_pos rfl]) rfl ?_
    repeat' (first
      | (k_unfold; (try dsimp only))
      | (k_end; wrow_close)
      | ((with_reducible show LeaveT _ _ _ _ _ _ _ _ _ _ _); first | (with_reducible ((k_dflt (refine' (fun F N T z1 => leaveT_ T F N z1) (by k_asm) (by k_asm) (by assumption) ?_; k_whole); intro _ _ _ _ _ _))) | ((k_dflt (refine' (fun F N T z1 => leaveT_ T F N z1) (by k_asm) (by k_asm) (by assumption) ?_; k_whole); intro _ _ _ _ _ _)))
      | ((with_reducible show wpAny _ _ (callWith _ (Value.ref _) _ _ _) _ _ _); first | (with_reducible ((k_here; k_dflt (refine' callWith_fn (by k_asm) (by assumption) (by assumption) ?_)))) | ((k_here; k_dflt (refine' callWith_fn (by k_asm) (by assumption) (by assumption) ?_))))
      | (first | (with_reducible ((k_here; (with_reducible show wpAny _ _ (eval (Expr.Call (Expr.Name _ _) _ [] _) _) _ _ _); k_dflt (refine Call_ ?_)))) | ((k_here; (with_reducible show wpAny _ _ (eval (Expr.Call (Expr.Name _ _) _ [] _) _) _ _ _); k_dflt (refine Call_ ?_))))
      | ((with_reducible show wpAny _ _ (exec (Stmt.Try _ _ _ _ _) _) _ _ _); first | (with_reducible ((k_here; k_dflt (refine wpAny_Try_except ?_)))) | ((k_here; k_dflt (refine wpAny_Try_except ?_))))
      | ((with_reducible show wpAny _ _ (exec _ _) _ _ _); k_here; k_fold; walk1)
      | walk1
      | (dsimp only; walk1)
      | (leave1; walk_say "STEP leave1"; try dsimp only)
      | fail "no step")
    exact rete code news' hE _ _ _ _ _ _ (by assumption) (by assumption) (by assumption) (by assumption) (news_d1 (by assumption))
end
end Mine
end

/-! part P18b -/
section
open PySem PySem.W PyProof.Rows PyProof.V
open PySem.Spec PySem.Calls
set_option maxRecDepth 100000
set_option linter.unusedVariables false
namespace Mine
section
variable {M : Model} {A : Around} {E : Value → Shared → Prop} {s : Shared} {h₀ : Heap} {L a c P : Addr} {m mg mb : Str → Option Value} {cn : Str} {cs : Scope} {ccd : Value} {cl : List (Str × Addr)} {news rest : List (Addr × Obj)} {g : Obj → List (Addr × Obj)}
  {p : Program} {loose : List Str} {mean : ExcName → Option Value} {name qual : Str} {params : Arguments} {body : PySem.Expr} {scope : Scope} {ps : Array Value} {pos : Pos} {firstLine : Nat} {clos : List (Str × Addr)}
theorem lam_made {Q : Value → Shared → Prop} (F : Fr h₀ L s.heap m) (N : News h₀ L s.heap news) (T : Top p loose mean mg mb h₀) (C : CodeHd h₀ c P) (hcd : ccd = .ref c) (U : UpdF P (tabObj ps) news g) (tg : TabGood qual ps rest) (sub : ∀ q ∈ rest, q ∈ news)
    (hcl : closureFor scope (envX cn cs L a ccd cl) = pure clos)
    (h : ∀ f c' oc vs t ctv ps' h' tk, Fr h₀ L h' m → News h₀ L h' ((f, kla_obj name qual params body scope clos ((mg "__name__").getD .none) c' ctv) :: (c', oc) :: g (tabObj ps')) →
      oc.data = .fields vs → vs[1]? = some (.str qual t) → TabGood qual ps' ((c', oc) :: rest) → (∀ x ox, (x, ox) ∈ news → (∀ q ∈ rest, q.1 ≠ x) → @Ne Nat c' x) → (∀ q ∈ news, q.1 < f) → @LT.lt Nat _ c' f → Q (.ref f) { s with heap := h', toks := tk }) :
    wpAny M A (makeFunction name qual params (.expr body) scope (envX cn cs L a ccd cl) [] [] [] pos firstLine) Q E s := by
  cases q : codeAmong pos ps.toList with
  | none =>
    refine kla_nest F N T C hcd U tg.tri q hcl fun f c' oc vs t ctv h' tk F' N' hd hv l1 l2 => ?_
    exact h f c' oc vs t ctv _ h' tk F' N' hd hv (tg.snoc hd hv) (fun x ox hx _ e => by have h1 : x < c' := l1 _ hx; rw [e] at h1; exact absurd h1 (Nat.lt_irrefl _)) (fun q hq => Nat.lt_trans (l1 q hq) l2) l2
  | some v =>
    obtain ⟨c', oc, vs, t, rfl, hm, hd, hv⟩ := tg.hit pos v q
    refine kla_hit F N T C hcd (upd_mem U) tg.tri q hcl fun f ctv h' tk F' N' l1 => ?_
    refine h f c' oc vs t ctv ps h' tk F' (fun r hr => N' r ?_) hd hv (tg.sub fun r hr => .tail _ hr) (fun x ox _ hr e => hr _ hm e) l1 (l1 _ (sub _ hm))
    rcases List.mem_cons.mp hr with rfl | hr
    · exact .head _
    · rcases List.mem_cons.mp hr with rfl | hr
      · exact .tail _ (sub _ hm)
      · rw [← upd_self U] at hr
        exact .tail _ hr
theorem lamE {Q : Value → Shared → Prop} {sc : Scope} {af : Addr} (F : Fr h₀ L s.heap m) (N : News h₀ L s.heap news) (T : Top p loose mean mg mb h₀) (C : CodeHd h₀ 165 161) (U : UpdF 161 (tabObj ps) news g) (tg : TabGood qualE ps rest) (sub : ∀ q ∈ rest, q ∈ news)
    (hcl : closureFor scope (envX (Str.ofString "_law_entered") sc L af (.ref 165) cl) = pure clos) (hdef : defaultsOf params (envX (Str.ofString "_law_entered") sc L af (.ref 165) cl) = ([], []))
    (h : ∀ f c' oc vs t ctv ps' h' tk, Fr h₀ L h' m → News h₀ L h' ((f, kla_obj (Str.ofString "<lambda>") qualE params body scope clos ((mg "__name__").getD .none) c' ctv) :: (c', oc) :: g (tabObj ps')) →
      oc.data = .fields vs → vs[1]? = some (.str qualE t) → TabGood qualE ps' ((c', oc) :: rest) → (∀ x ox, (x, ox) ∈ news → (∀ q ∈ rest, q.1 ≠ x) → @Ne Nat c' x) → (∀ q ∈ news, q.1 < f) → @LT.lt Nat _ c' f → Q (.ref f) { s with heap := h', toks := tk }) :
    wpAny M A (eval (.Lambda params body scope pos) (envX (Str.ofString "_law_entered") sc L af (.ref 165) cl)) Q E s :=
  kla_eval hdef (lam_made F N T C rfl U tg sub hcl h)
theorem lamD {Q : Value → Shared → Prop} {sc : Scope} {af : Addr} (F : Fr h₀ L s.heap m) (N : News h₀ L s.heap news) (T : Top p loose mean mg mb h₀) (C : CodeHd h₀ 170 168) (U : UpdF 168 (tabObj ps) news g) (tg : TabGood qualD ps rest) (sub : ∀ q ∈ rest, q ∈ news)
    (hcl : closureFor scope (envX (Str.ofString "_law_deed") sc L af (.ref 170) cl) = pure clos) (hdef : defaultsOf params (envX (Str.ofString "_law_deed") sc L af (.ref 170) cl) = ([], []))
    (h : ∀ f c' oc vs t ctv ps' h' tk, Fr h₀ L h' m → News h₀ L h' ((f, kla_obj (Str.ofString "<lambda>") qualD params body scope clos ((mg "__name__").getD .none) c' ctv) :: (c', oc) :: g (tabObj ps')) →
      oc.data = .fields vs → vs[1]? = some (.str qualD t) → TabGood qualD ps' ((c', oc) :: rest) → (∀ x ox, (x, ox) ∈ news → (∀ q ∈ rest, q.1 ≠ x) → @Ne Nat c' x) → (∀ q ∈ news, q.1 < f) → @LT.lt Nat _ c' f → Q (.ref f) { s with heap := h', toks := tk }) :
    wpAny M A (eval (.Lambda params body scope pos) (envX (Str.ofString "_law_deed") sc L af (.ref 170) cl)) Q E s :=
  kla_eval hdef (lam_made F N T C rfl U tg sub hcl h)
end
end Mine
end

/-! part P20 -/
section
open PySem PySem.W PyProof.Rows PyProof.V
open PySem.Spec PySem.Calls
set_option maxRecDepth 100000
set_option linter.unusedVariables false
namespace Mine
theorem fresh_P20 : True := by
  w_top off
  trivial
abbrev par0 : Arguments := { posonlyargs := [], args := [], vararg := none, kwonlyargs := [], kw_defaults := [], kwarg := none, defaults := [] }
abbrev scL : Scope := { kind := ScopeKind.function, names := [(Str.ofString "program", NameKind.free), (Str.ofString "text", NameKind.free), (Str.ofString "enter_row", NameKind.globalImplicit)], isGenerator := false, isCoroutine := false }
abbrev lamBody (p1 p2 p3 p4 : Pos) : PySem.Expr := .Call (.Name (Str.ofString "enter_row") p1) [.Name (Str.ofString "program") p2, .Name (Str.ofString "text") p3] [] p4
section
variable {w : World} {p : Program} {loose : List Str} {mean : ExcName → Option Value} {mg mb : Str → Option Value} {dp un : Nat} {gd : Option (List Code)} {cn : Str} {cs : Scope} {a : Addr} {ccd : Value} {cl : List (Str × Addr)} {outer : List Env} {A₀ : Around} {base h₀ : Heap} {L : Addr} {m : Str → Option Value} {news : List (Addr × Obj)} {s : Shared}
    {Q E : Value → Shared → Prop}
local macro_rules | `(tactic| k_mem) => `(tactic| first | (with_reducible assumption) | exact List.mem_cons_self | (refine List.mem_cons_of_mem _ ?_; k_mem))
set_option maxHeartbeats 8000000 in
theorem thunk_spec (B : Below A₀ base outer h₀) (F : Fr h₀ L s.heap m) (X : (hd.heap_39 w.params).In h₀) (N : News h₀ L s.heap news) (T : Top p loose mean mg mb h₀) (hk : cs.kind = .function) (hd : dp + 60 < recursionLimit) (hu : un + 600 < cLine)
   (f cp ct c' : Addr) (op ot oc : Obj) (clos : List (Str × Addr)) (pm ctv : Value) (p1 p2 p3 p4 : Pos) (vs : Array Value) (tq : Tok)
   (hf0 : (f, kla_obj (Str.ofString "<lambda>") qualE par0 (lamBody p1 p2 p3 p4) scL clos pm c' ctv) ∈ news) (hoc : (c', oc) ∈ news) (hoc1 : oc.data = .fields vs) (hoc2 : vs[1]? = some (.str qualE tq))
   (hc1 : clos.lookup (Str.ofString "program") = some cp) (hc2 : clos.lookup (Str.ofString "text") = some ct) (hp1 : (cp, op) ∈ news)
   (d : Addr) (hp2 : op.data = .cell (some (.ref d))) (ht1 : (ct, ot) ∈ news) (x : Str) (t : Tok) (ht2 : ot.data = .cell (some (.str x t)))
   (o : Obj) (c : Bk) (u : Obj → List (Addr × Obj)) (hm : (d, o) ∈ news) (U : UpdF d o news u) (lo : (d == sysModules) = false) (TD : TDict PR w o c) (hc : c.length < 64)
   (hx : x.length ≤ 1000) (hf : (pFig x).cps.all isFig = true) (h0 : 0 ≤ pNum x) (h1 : pNum x ≤ 65529) (hr : (pRest x).length ≤ 1000)
   (ret0 : pE x = pB x → ∀ h' tk' t', Fr h₀ L h' m → News h₀ L h' news → Q (.str (Txt.slice x (some (pB x)) none) t') { s with heap := h', toks := tk' })
   (retS : pE x ≠ pB x → (Txt.stripChars (pRest x) (Str.ofString " ") != Str.ofString "") = true → ∀ o' h' tk', Fr h₀ L h' m → News h₀ L h' (u o') → TDict PR w o' (sPut c (pNum x) (Txt.rstripChars (pRest x) (Str.ofString " "))) → Q .none { s with heap := h', toks := tk' })
   (retP : pE x ≠ pB x → (Txt.stripChars (pRest x) (Str.ofString " ") != Str.ofString "") = false → sHas c (pNum x) = true → ∀ o' h' tk', Fr h₀ L h' m → News h₀ L h' (u o') → TDict PR w o' (sDel c (pNum x)) → Q .none { s with heap := h', toks := tk' })
   (err : pE x ≠ pB x → (Txt.stripChars (pRest x) (Str.ofString " ") != Str.ofString "") = false → sHas c (pNum x) = false → RaiseTo base h₀ L m (envX cn cs L a ccd cl :: outer) news "UL" E s) :
   wpAny (model PySem.Challenge.rw_pc0001_01.row.prog w) (ktrTop dp un gd cn cs L a ccd cl outer) (call (.ref f) []) Q E s := by
  revert X; k_fill; intro X
  refine wpAny_call ?_
  refine' kla_code ?k1 ?k2 ?k3 ?k4 ?k5 ?kA ?kF ?kK ?k6 ?k7 ?k8 ?k9 ?kB ?_ ?c2 ?c3 ?c4 ?c5
  case kA => exact rfl
  case kF => exact rfl
  case kK => assumption
  case k1 => k_asm
  case k2 => k_asm
  case k3 => k_asm
  case k4 => k_asm
  case k5 => k_asm
  case k6 => exact hf0
  case k7 => exact codeRec_news N hoc hoc1 hoc2
  case k8 => ktr_room
  case k9 => exact rfl
  case c5 => decide
  case kB => exact locs rfl
  case c2 => exact rfl
  case c3 => exact rfl
  case c4 => exact rfl
  k_whole
  intro g' L' h' FG' F' N' B' X' T'
  (try dsimp only)
  (try k_fold)
  k_with_none
  repeat' (first
    | (k_unfold; (try dsimp only))
    | (k_end; wrow_close)
    | ((with_reducible show wpAny _ _ (call (Value.ref _) _) _ _ _); first | (with_reducible ((k_here; k_dflt ((refine' (fun z1 z2 z3 z4 z5 z6 B F X N T k d u hm U lo TD hc hx hf h0 h1 hr er rP rS r0 => enter_row_spec B F X N T k d u z1 z2 z3 z4 hm U lo TD hc z5 z6 hx hf h0 h1 hr r0 rS rP er) _ _ _ _ _ _ (by k_asm) (by k_asm) (by k_asm) (by k_asm) (by k_asm) (by rfl) (by first | exact room1 (by with_reducible assumption) (by decide) | ktr_room) (by first | exact units1 (by with_reducible assumption) (by decide) | ktr_units) (by with_reducible assumption) (by with_reducible assumption) (by with_reducible assumption) (by with_reducible assumption) (by with_reducible assumption) (by with_reducible assumption) (by with_reducible assumption) (by with_reducible assumption) (by with_reducible assumption) (by with_reducible assumption) ?_ ?_ ?_ ?_; (focus (intro a1' a2' a3' _ _ _ _ h' tk' _ _ _ _; (try dsimp only))); rotate_left; (focus (intro a1' a2' _ o' h' tk' F' N' TD')); rotate_left; (focus (intro _ _ _ h' tk' F' N' _)); rotate_left; (focus (intro _ _ _ _ _ _)); rotate_left; (all_goals (try k_fold))))))) | ((k_here; k_dflt ((refine' (fun z1 z2 z3 z4 z5 z6 B F X N T k d u hm U lo TD hc hx hf h0 h1 hr er rP rS r0 => enter_row_spec B F X N T k d u z1 z2 z3 z4 hm U lo TD hc z5 z6 hx hf h0 h1 hr r0 rS rP er) _ _ _ _ _ _ (by k_asm) (by k_asm) (by k_asm) (by k_asm) (by k_asm) (by rfl) (by first | exact room1 (by with_reducible assumption) (by decide) | ktr_room) (by first | exact units1 (by with_reducible assumption) (by decide) | ktr_units) (by with_reducible assumption) (by with_reducible assumption) (by with_reducible assumption) (by with_reducible assumption) (by with_reducible assumption) (by with_reducible assumption) (by with_reducible assumption) (by with_reducible assumption) (by with_reducible assumption) (by with_reducible assumption) ?_ ?_ ?_ ?_; (focus (intro a1' a2' a3' _ _ _ _ h' tk' _ _ _ _; (try dsimp only))); rotate_left; (focus (intro a1' a2' _ o' h' tk' F' N' TD')); rotate_left; (focus (intro _ _ _ h' tk' F' N' _)); rotate_left; (focus (intro _ _ _ _ _ _)); rotate_left; (all_goals (try k_fold)))))))
    | ((with_reducible show wpAny _ _ (leaving _ _) _ _ _); first | (with_reducible ((k_here; k_dflt ((refine' (fun K R F u z1 => leave_onD K F R u z1) (by k_asm) (by with_reducible assumption) (by with_reducible assumption) (by with_reducible assumption) ?_; intro _ _ _))))) | ((k_here; k_dflt ((refine' (fun K R F u z1 => leave_onD K F R u z1) (by k_asm) (by with_reducible assumption) (by with_reducible assumption) (by with_reducible assumption) ?_; intro _ _ _)))))
    | ((with_reducible show wpAny _ _ (eval (Expr.Name _ _) _) _ _ _); first | (with_reducible ((k_here; k_dflt (refine' (fun a b e f N c m d z1 => nameX_F N c m d z1 a b e f) (by rfl) (by rfl) (by decide) (by decide) (by k_asm) (by with_reducible assumption) (by with_reducible assumption) (by with_reducible assumption) ?_)))) | ((k_here; k_dflt (refine' (fun a b e f N c m d z1 => nameX_F N c m d z1 a b e f) (by rfl) (by rfl) (by decide) (by decide) (by k_asm) (by with_reducible assumption) (by with_reducible assumption) (by with_reducible assumption) ?_))))
    | (first | (with_reducible ((k_here; (with_reducible show wpAny _ _ (eval (Expr.Call (Expr.Name _ _) _ [] _) _) _ _ _); k_dflt (refine Call_ ?_)))) | ((k_here; (with_reducible show wpAny _ _ (eval (Expr.Call (Expr.Name _ _) _ [] _) _) _ _ _); k_dflt (refine Call_ ?_))))
    | ((with_reducible show wpAny _ _ (exec _ _) _ _ _); k_here; k_fold; walk1)
    | walk1
    | (dsimp only; walk1)
    | (leave1; walk_say "STEP leave1"; try dsimp only)
    | fail "no step")
  · exact err (by with_reducible assumption) (by with_reducible assumption) (by with_reducible assumption) _ _ _ _ _ _ (by with_reducible assumption) (by with_reducible assumption) (by with_reducible assumption) (by with_reducible assumption)
  · exact retP (by with_reducible assumption) (by with_reducible assumption) (by with_reducible assumption) _ _ _ (by assumption) (by assumption) (by with_reducible assumption)
  · exact retS (by with_reducible assumption) (by with_reducible assumption) _ _ _ (by assumption) (by assumption) (by with_reducible assumption)
  · exact ret0 (by with_reducible assumption) _ _ _ (by assumption) (by assumption)
set_option maxHeartbeats 8000000 in
theorem thunk_raise (B : Below A₀ base outer h₀) (F : Fr h₀ L s.heap m) (X : (hd.heap_39 w.params).In h₀) (N : News h₀ L s.heap news) (T : Top p loose mean mg mb h₀) (hk : cs.kind = .function) (hd : dp + 60 < recursionLimit) (hu : un + 600 < cLine)
   (f cp ct c' : Addr) (op ot oc : Obj) (clos : List (Str × Addr)) (pm ctv : Value) (p1 p2 p3 p4 : Pos) (vs : Array Value) (tq : Tok)
   (hf0 : (f, kla_obj (Str.ofString "<lambda>") qualE par0 (lamBody p1 p2 p3 p4) scL clos pm c' ctv) ∈ news) (hoc : (c', oc) ∈ news) (hoc1 : oc.data = .fields vs) (hoc2 : vs[1]? = some (.str qualE tq))
   (hc1 : clos.lookup (Str.ofString "program") = some cp) (hc2 : clos.lookup (Str.ofString "text") = some ct) (hp1 : (cp, op) ∈ news)
   (d : Addr) (hp2 : op.data = .cell (some (.ref d))) (ht1 : (ct, ot) ∈ news) (x : Str) (t : Tok) (ht2 : ot.data = .cell (some (.str x t)))
   (hx : x.length ≤ 1000) (hf : (pFig x).cps.all isFig = true) (hE : pE x ≠ pB x) (h1 : 65529 < pNum x)
   (err : RaiseTo base h₀ L m (envX cn cs L a ccd cl :: outer) news "SN" E s) :
   wpAny (model PySem.Challenge.rw_pc0001_01.row.prog w) (ktrTop dp un gd cn cs L a ccd cl outer) (call (.ref f) []) Q E s := by
  revert X; k_fill; intro X
  refine wpAny_call ?_
  refine' kla_code ?k1 ?k2 ?k3 ?k4 ?k5 ?kA ?kF ?kK ?k6 ?k7 ?k8 ?k9 ?kB ?_ ?c2 ?c3 ?c4 ?c5
  case kA => exact rfl
  case kF => exact rfl
  case kK => assumption
  case k1 => k_asm
  case k2 => k_asm
  case k3 => k_asm
  case k4 => k_asm
  case k5 => k_asm
  case k6 => exact hf0
  case k7 => exact codeRec_news N hoc hoc1 hoc2
  case k8 => ktr_room
  case k9 => exact rfl
  case c5 => decide
  case kB => exact locs rfl
  case c2 => exact rfl
  case c3 => exact rfl
  case c4 => exact rfl
  k_whole
  intro g' L' h' FG' F' N' B' X' T'
  (try dsimp only)
  (try k_fold)
  k_with_none
  repeat' (first
    | (k_unfold; (try dsimp only))
    | (k_end; wrow_close)
    | ((with_reducible show wpAny _ _ (call (Value.ref _) _) _ _ _); first | (with_reducible ((k_here; k_dflt ((refine' enter_row_raise (by k_asm) (by k_asm) (by k_asm) (by k_asm) (by k_asm) (by rfl) (by first | exact room1 (by with_reducible assumption) (by decide) | ktr_room) (by first | exact units1 (by with_reducible assumption) (by decide) | ktr_units) _ _ _ (by with_reducible assumption) (by with_reducible assumption) (by with_reducible assumption) (by with_reducible assumption) ?_; intro _ _ _ _ _ _ _ _ _ _; (try dsimp only)))))) | ((k_here; k_dflt ((refine' enter_row_raise (by k_asm) (by k_asm) (by k_asm) (by k_asm) (by k_asm) (by rfl) (by first | exact room1 (by with_reducible assumption) (by decide) | ktr_room) (by first | exact units1 (by with_reducible assumption) (by decide) | ktr_units) _ _ _ (by with_reducible assumption) (by with_reducible assumption) (by with_reducible assumption) (by with_reducible assumption) ?_; intro _ _ _ _ _ _ _ _ _ _; (try dsimp only))))))
    | ((with_reducible show wpAny _ _ (call (Value.ref _) _) _ _ _); first | (with_reducible ((k_here; k_dflt ((refine' (fun z1 z2 z3 z4 z5 z6 B F X N T k d u hm U lo TD hc hx hf h0 h1 hr er rP rS r0 => enter_row_spec B F X N T k d u z1 z2 z3 z4 hm U lo TD hc z5 z6 hx hf h0 h1 hr r0 rS rP er) _ _ _ _ _ _ (by k_asm) (by k_asm) (by k_asm) (by k_asm) (by k_asm) (by rfl) (by first | exact room1 (by with_reducible assumption) (by decide) | ktr_room) (by first | exact units1 (by with_reducible assumption) (by decide) | ktr_units) (by with_reducible assumption) (by with_reducible assumption) (by with_reducible assumption) (by with_reducible assumption) (by with_reducible assumption) (by with_reducible assumption) (by with_reducible assumption) (by with_reducible assumption) (by with_reducible assumption) (by with_reducible assumption) ?_ ?_ ?_ ?_; (focus (intro a1' a2' a3' _ _ _ _ h' tk' _ _ _ _; (try dsimp only))); rotate_left; (focus (intro a1' a2' _ o' h' tk' F' N' TD')); rotate_left; (focus (intro _ _ _ h' tk' F' N' _)); rotate_left; (focus (intro _ _ _ _ _ _)); rotate_left; (all_goals (try k_fold))))))) | ((k_here; k_dflt ((refine' (fun z1 z2 z3 z4 z5 z6 B F X N T k d u hm U lo TD hc hx hf h0 h1 hr er rP rS r0 => enter_row_spec B F X N T k d u z1 z2 z3 z4 hm U lo TD hc z5 z6 hx hf h0 h1 hr r0 rS rP er) _ _ _ _ _ _ (by k_asm) (by k_asm) (by k_asm) (by k_asm) (by k_asm) (by rfl) (by first | exact room1 (by with_reducible assumption) (by decide) | ktr_room) (by first | exact units1 (by with_reducible assumption) (by decide) | ktr_units) (by with_reducible assumption) (by with_reducible assumption) (by with_reducible assumption) (by with_reducible assumption) (by with_reducible assumption) (by with_reducible assumption) (by with_reducible assumption) (by with_reducible assumption) (by with_reducible assumption) (by with_reducible assumption) ?_ ?_ ?_ ?_; (focus (intro a1' a2' a3' _ _ _ _ h' tk' _ _ _ _; (try dsimp only))); rotate_left; (focus (intro a1' a2' _ o' h' tk' F' N' TD')); rotate_left; (focus (intro _ _ _ h' tk' F' N' _)); rotate_left; (focus (intro _ _ _ _ _ _)); rotate_left; (all_goals (try k_fold)))))))
    | ((with_reducible show wpAny _ _ (leaving _ _) _ _ _); first | (with_reducible ((k_here; k_dflt ((refine' (fun K R F u z1 => leave_onD K F R u z1) (by k_asm) (by with_reducible assumption) (by with_reducible assumption) (by with_reducible assumption) ?_; intro _ _ _))))) | ((k_here; k_dflt ((refine' (fun K R F u z1 => leave_onD K F R u z1) (by k_asm) (by with_reducible assumption) (by with_reducible assumption) (by with_reducible assumption) ?_; intro _ _ _)))))
    | ((with_reducible show wpAny _ _ (eval (Expr.Name _ _) _) _ _ _); first | (with_reducible ((k_here; k_dflt (refine' (fun a b e f N c m d z1 => nameX_F N c m d z1 a b e f) (by rfl) (by rfl) (by decide) (by decide) (by k_asm) (by with_reducible assumption) (by with_reducible assumption) (by with_reducible assumption) ?_)))) | ((k_here; k_dflt (refine' (fun a b e f N c m d z1 => nameX_F N c m d z1 a b e f) (by rfl) (by rfl) (by decide) (by decide) (by k_asm) (by with_reducible assumption) (by with_reducible assumption) (by with_reducible assumption) ?_))))
    | (first | (with_reducible ((k_here; (with_reducible show wpAny _ _ (eval (Expr.Call (Expr.Name _ _) _ [] _) _) _ _ _); k_dflt (refine Call_ ?_)))) | ((k_here; (with_reducible show wpAny _ _ (eval (Expr.Call (Expr.Name _ _) _ [] _) _) _ _ _); k_dflt (refine Call_ ?_))))
    | ((with_reducible show wpAny _ _ (exec _ _) _ _ _); k_here; k_fold; walk1)
    | walk1
    | (dsimp only; walk1)
    | (leave1; walk_say "STEP leave1"; try dsimp only)
    | fail "no step")
  exact err _ _ _ _ _ _ (by with_reducible assumption) (by with_reducible assumption) (by with_reducible assumption) (by with_reducible assumption)
end
end Mine
end

/-! part P21 -/
section
open PySem PySem.W PyProof.Rows PyProof.V
open PySem.Spec PySem.Calls
set_option maxRecDepth 100000
set_option linter.unusedVariables false
namespace Mine
section
variable {w : World} {p : Program} {loose : List Str} {mean : ExcName → Option Value} {mg mb : Str → Option Value} {dp un : Nat} {gd : Option (List Code)} {cn : Str} {cs : Scope} {a : Addr} {ccd : Value} {cl : List (Str × Addr)} {outer : List Env} {A₀ : Around} {base h₀ : Heap} {L : Addr} {m : Str → Option Value} {news : List (Addr × Obj)} {s : Shared}
    {Q E : Value → Shared → Prop}
set_option maxHeartbeats 8000000 in
theorem heardE_put (B : Below A₀ base outer h₀) (F : Fr h₀ L s.heap m) (X : (Mine.hd.heap_39 w.params).In h₀) (N : News h₀ L s.heap news) (T : Top p loose mean mg mb h₀) (XB : (Mine.hd.heap_39 w.params).In base) (TB : Top p loose mean mg mb base) (Dk : KtsDicts (frs outer) h₀) (hk : cs.kind = .function) (hd : dp + 90 < recursionLimit) (hu : un + 900 < cLine)
   (f cp ct c' : Addr) (op ot oc : Obj) (clos : List (Str × Addr)) (pm ctv : Value) (p1 p2 p3 p4 : Pos) (vs : Array Value) (tq : Tok)
   (hf0 : (f, kla_obj (Str.ofString "<lambda>") qualE par0 (lamBody p1 p2 p3 p4) scL clos pm c' ctv) ∈ news) (hoc : (c', oc) ∈ news) (hoc1 : oc.data = .fields vs) (hoc2 : vs[1]? = some (.str qualE tq))
   (hc1 : clos.lookup (Str.ofString "program") = some cp) (hc2 : clos.lookup (Str.ofString "text") = some ct) (hp1 : (cp, op) ∈ news)
   (d : Addr) (hp2 : op.data = .cell (some (.ref d))) (ht1 : (ct, ot) ∈ news) (x : Str) (t : Tok) (ht2 : ot.data = .cell (some (.str x t)))
   (o : Obj) (c : Bk) (u : Obj → List (Addr × Obj)) (hm : (d, o) ∈ news) (U : UpdF d o news u) (lo : (d == sysModules) = false) (TD : TDict PR w o c) (hc : c.length < 64)
   (hx : x.length ≤ 1000) (hf : (pFig x).cps.all isFig = true) (h0 : 0 ≤ pNum x) (h1 : pNum x ≤ 65529) (hr : (pRest x).length ≤ 1000)
   (ret0 : pE x = pB x → ∀ h₀' D t t' h' tk', KtsTurn (frs outer) h₀ h₀' → Below A₀ base outer h₀' → KtsDicts (frs outer) h₀' → Fr h₀' L h' m → News h₀' L h' ((D, tupObj [.str (Str.ofString "value") t, .str (Txt.slice x (some (pB x)) none) t']) :: news) → Q (.ref D) { s with heap := h', toks := tk' })
   (retS : pE x ≠ pB x → (Txt.stripChars (pRest x) (Str.ofString " ") != Str.ofString "") = true → ∀ o' h₀' D t h' tk', TDict PR w o' (sPut c (pNum x) (Txt.rstripChars (pRest x) (Str.ofString " "))) → KtsTurn (frs outer) h₀ h₀' → Below A₀ base outer h₀' → KtsDicts (frs outer) h₀' → Fr h₀' L h' m → News h₀' L h' ((D, tupObj [.str (Str.ofString "value") t, .none]) :: u o') → Q (.ref D) { s with heap := h', toks := tk' })
   (retP : pE x ≠ pB x → (Txt.stripChars (pRest x) (Str.ofString " ") != Str.ofString "") = false → sHas c (pNum x) = true → ∀ o' h₀' D t h' tk', TDict PR w o' (sDel c (pNum x)) → KtsTurn (frs outer) h₀ h₀' → Below A₀ base outer h₀' → KtsDicts (frs outer) h₀' → Fr h₀' L h' m → News h₀' L h' ((D, tupObj [.str (Str.ofString "value") t, .none]) :: u o') → Q (.ref D) { s with heap := h', toks := tk' })
   (err : pE x ≠ pB x → (Txt.stripChars (pRest x) (Str.ofString " ") != Str.ofString "") = false → sHas c (pNum x) = false → ∀ h₀' D t tc h' tk', KtsTurn (frs outer) h₀ h₀' → Below A₀ base outer h₀' → KtsDicts (frs outer) h₀' → Fr h₀' L h' m → News h₀' L h' ((D, tupObj [.str (Str.ofString "refused") t, .str (Str.ofString "UL") tc]) :: news) → Q (.ref D) { s with heap := h', toks := tk' }) :
   wpAny (model PySem.Challenge.rw_pc0001_01.row.prog w) (ktrTop dp un gd cn cs L a ccd cl outer) (call (.ref 145) [.ref f]) Q E s := by
  refine heard_spec
    (fun v nw => (pE x = pB x ∧ nw = news ∧ ∃ t', v = .str (Txt.slice x (some (pB x)) none) t') ∨ (pE x ≠ pB x ∧ (Txt.stripChars (pRest x) (Str.ofString " ") != Str.ofString "") = true ∧ v = .none ∧ ∃ o', nw = u o' ∧ TDict PR w o' (sPut c (pNum x) (Txt.rstripChars (pRest x) (Str.ofString " ")))) ∨
      (pE x ≠ pB x ∧ (Txt.stripChars (pRest x) (Str.ofString " ") != Str.ofString "") = false ∧ sHas c (pNum x) = true ∧ v = .none ∧ ∃ o', nw = u o' ∧ TDict PR w o' (sDel c (pNum x))))
    (fun code nw => pE x ≠ pB x ∧ (Txt.stripChars (pRest x) (Str.ofString " ") != Str.ofString "") = false ∧ sHas c (pNum x) = false ∧ code = Str.ofString "UL" ∧ nw = news)
    B F X T XB TB Dk hk (by omega) (by omega) f N _ _ hf0 rfl ?_ ?_ ?_
  · intro g L' h₁ tk mH Q' E' FG FH NH BH XH TH okv oke
    refine' thunk_spec BH FH XH NH TH ?k ?d ?u f cp ct c' op ot oc clos pm ctv p1 p2 p3 p4 vs tq hf0 hoc hoc1 hoc2 hc1 hc2 hp1 d hp2 ht1 x t ht2 o c u hm U lo TD hc hx hf h0 h1 hr ?r0 ?rS ?rP ?er
    case k => rfl
    case d => ktr_room
    case u => ktr_units
    case r0 => exact fun e h' tk' t' F' N' => okv _ _ _ _ (.inl ⟨e, rfl, _, rfl⟩) F' N'
    case rS => exact fun e1 e2 o' h' tk' F' N' T' => okv _ _ _ _ (.inr (.inl ⟨e1, e2, rfl, _, rfl, T'⟩)) F' N'
    case rP => exact fun e1 e2 e3 o' h' tk' F' N' T' => okv _ _ _ _ (.inr (.inr ⟨e1, e2, e3, rfl, _, rfl, T'⟩)) F' N'
    case er => exact fun e1 e2 e3 => oke _ _ ⟨e1, e2, e3, rfl, rfl⟩
  · rintro v nw (⟨e, rfl, t', rfl⟩ | ⟨e1, e2, rfl, o', rfl, T'⟩ | ⟨e1, e2, e3, rfl, o', rfl, T'⟩) h₀' D t h' tk' z1 z2 z3 z4 z5
    · exact ret0 e _ _ _ _ _ _ z1 z2 z3 z4 z5
    · exact retS e1 e2 _ _ _ _ _ _ T' z1 z2 z3 z4 z5
    · exact retP e1 e2 e3 _ _ _ _ _ _ T' z1 z2 z3 z4 z5
  · rintro code nw ⟨e1, e2, e3, rfl, rfl⟩ h₀' D t tc h' tk' z1 z2 z3 z4 z5
    exact err e1 e2 e3 _ _ _ _ _ _ z1 z2 z3 z4 z5
set_option maxHeartbeats 8000000 in
theorem heardE_sn (B : Below A₀ base outer h₀) (F : Fr h₀ L s.heap m) (X : (Mine.hd.heap_39 w.params).In h₀) (N : News h₀ L s.heap news) (T : Top p loose mean mg mb h₀) (XB : (Mine.hd.heap_39 w.params).In base) (TB : Top p loose mean mg mb base) (Dk : KtsDicts (frs outer) h₀) (hk : cs.kind = .function) (hd : dp + 90 < recursionLimit) (hu : un + 900 < cLine)
   (f cp ct c' : Addr) (op ot oc : Obj) (clos : List (Str × Addr)) (pm ctv : Value) (p1 p2 p3 p4 : Pos) (vs : Array Value) (tq : Tok)
   (hf0 : (f, kla_obj (Str.ofString "<lambda>") qualE par0 (lamBody p1 p2 p3 p4) scL clos pm c' ctv) ∈ news) (hoc : (c', oc) ∈ news) (hoc1 : oc.data = .fields vs) (hoc2 : vs[1]? = some (.str qualE tq))
   (hc1 : clos.lookup (Str.ofString "program") = some cp) (hc2 : clos.lookup (Str.ofString "text") = some ct) (hp1 : (cp, op) ∈ news)
   (d : Addr) (hp2 : op.data = .cell (some (.ref d))) (ht1 : (ct, ot) ∈ news) (x : Str) (t : Tok) (ht2 : ot.data = .cell (some (.str x t)))
   (hx : x.length ≤ 1000) (hf : (pFig x).cps.all isFig = true) (hE : pE x ≠ pB x) (h1 : 65529 < pNum x)
   (err : ∀ h₀' D t tc h' tk', KtsTurn (frs outer) h₀ h₀' → Below A₀ base outer h₀' → KtsDicts (frs outer) h₀' → Fr h₀' L h' m → News h₀' L h' ((D, tupObj [.str (Str.ofString "refused") t, .str (Str.ofString "SN") tc]) :: news) → Q (.ref D) { s with heap := h', toks := tk' }) :
   wpAny (model PySem.Challenge.rw_pc0001_01.row.prog w) (ktrTop dp un gd cn cs L a ccd cl outer) (call (.ref 145) [.ref f]) Q E s := by
  refine heard_spec (fun _ _ => False) (fun code nw => code = Str.ofString "SN" ∧ nw = news) B F X T XB TB Dk hk (by omega) (by omega) f N _ _ hf0 rfl ?_ ?_ ?_
  · intro g L' h₁ tk mH Q' E' FG FH NH BH XH TH okv oke
    refine' thunk_raise BH FH XH NH TH ?k ?d ?u f cp ct c' op ot oc clos pm ctv p1 p2 p3 p4 vs tq hf0 hoc hoc1 hoc2 hc1 hc2 hp1 d hp2 ht1 x t ht2 hx hf hE h1 ?er
    case k => rfl
    case d => ktr_room
    case u => ktr_units
    case er => exact oke _ _ ⟨rfl, rfl⟩
  · exact fun v nw h => h.elim
  · rintro code nw ⟨rfl, rfl⟩ h₀' D t tc h' tk' z1 z2 z3 z4 z5
    exact err _ _ _ _ _ _ z1 z2 z3 z4 z5
end
end Mine
end

/-! part P18 -/
section
open PySem PySem.W PyProof.Rows PyProof.V
open PySem.Spec PySem.Calls
set_option maxRecDepth 100000
set_option linter.unusedVariables false
namespace Mine
theorem fresh_P18 : True := by
  w_top off
  trivial
def HeardHere (P : Prop) : Prop := P
theorem heardHere {P : Prop} (h : HeardHere P) : P := h
theorem lt_hd {x D : Addr} {o : Obj} {l : List (Addr × Obj)} (h : ∀ q ∈ (x, o) :: l, q.1 < D) : @LT.lt Nat _ x D := h _ (.head _)
theorem lt_tl {D : Addr} {p : Addr × Obj} {l : List (Addr × Obj)} (h : ∀ q ∈ p :: l, q.1 < D) : ∀ q ∈ l, q.1 < D := fun q hq => h q (.tail _ hq)
theorem ne_up {D : Addr} (k : Nat) {l : List (Addr × Obj)} (h : ∀ q ∈ l, q.1 < D) : ∀ q ∈ l, q.1 ≠ D + k := fun q hq e => by
  have h1 : q.1 < D := h q hq
  rw [e] at h1
  exact absurd h1 (Nat.not_lt.mpr (Nat.le_add_right D k))
theorem dir_shk : ∀ j, j < 8 → SeqAt.shaped (.tuple [.str (Str.ofString "value"), .str (Str.ofString "PRINT" ++ texts.getD j (Str.ofString ""))]) = true := by decide +kernel
theorem textOf_tX (n : Int) : textOf n = tX (Int.fmod (Int.fdiv n 8) 8).toNat := by
  unfold textOf txtAt
  rfl
theorem lineOf_nums (n : Int) : lineOf n = numbers.getD (Int.fmod n 8).toNat 0 := by
  unfold lineOf numAt
  rfl
theorem kept_text {n : Int} (h : (Txt.stripChars (textOf n) (Str.ofString " ") != Str.ofString "") = true) : keptOf (textOf n) = Txt.rstripChars (textOf n) (Str.ofString " ") ∧ Txt.rstripChars (textOf n) (Str.ofString " ") ∈ keptTexts := by
  rw [textOf_tX] at h ⊢
  exact ⟨(facts_text _ (i8 (Int.fdiv n 8)) h).1, (facts_text _ (i8 (Int.fdiv n 8)) h).2.1⟩
theorem dir_sh (n : Int) : SeqAt.shaped (.tuple [.str (Str.ofString "value"), .str (dirOf n)]) = true := by
  unfold dirOf textOf txtAt
  exact dir_shk _ (i8 (Int.fdiv n 8))
theorem line_key {n : Int} (h : lineOf n ≤ 65529) : lineOf n ∈ keys := by
  rw [lineOf_nums] at h ⊢
  exact facts_num _ (i8 n) h
section
variable {w : World} {p : Program} {loose : List Str} {mean : ExcName → Option Value} {mg mb : Str → Option Value} {dp un : Nat} {gd : Option (List Code)} {cn : Str} {cs : Scope} {a : Addr} {ccd : Value} {cl : List (Str × Addr)} {outer : List Env} {A₀ : Around} {base h₀ : Heap} {L : Addr} {m : Str → Option Value} {news : List (Addr × Obj)} {s : Shared}
    {Q E : Value → Shared → Prop}
local macro_rules | `(tactic| k_mem) => `(tactic| first | (with_reducible assumption) | exact List.mem_cons_self | (refine List.mem_cons_of_mem _ ?_; k_mem))
local macro_rules | `(tactic| k_all) => `(tactic| first | (with_reducible assumption) | exact List.forall_mem_nil _ | (refine List.forall_mem_cons.mpr ⟨?_, ?_⟩; (focus k_ne); k_all))
set_option maxHeartbeats 4000000 in
theorem law_entered_spec (B : Below A₀ base outer h₀) (F : Fr h₀ L s.heap m) (X : (hd.heap_39 w.params).In h₀) (T : Top p loose mean mg mb h₀) (XB : (hd.heap_39 w.params).In base) (TB : Top p loose mean mg mb base) (D : KtsDicts (frs outer) h₀) (hk : cs.kind = .function) (hd : dp + 100 < recursionLimit) (hu : un + 1000 < cLine)
   (d : Addr) (o : Obj) (b : Addr) (ob : Obj) (ps qs : Array Value) (rest : List (Addr × Obj)) (c : Bk) (N : News h₀ L s.heap (ledOf d o b ob ps qs rest)) (K : LedOk w d o b ob ps qs rest c) (I : Inv c) (n : Int) (tn : Tok) (h0 : 0 ≤ n)
   (ret : ∀ h₀' o' ob' ps' qs' rest' c' h' tk', KtsTurn (frs outer) h₀ h₀' → Below A₀ base outer h₀' → KtsDicts (frs outer) h₀' → Fr h₀' L h' m → News h₀' L h' (ledOf d o' b ob' ps' qs' rest') → LedOk w d o' b ob' ps' qs' rest' c' → Inv c' → (∀ q ∈ rest, q ∈ rest') → Q (.bool true) { s with heap := h', toks := tk' }) :
   wpAny (model PySem.Challenge.rw_pc0001_01.row.prog w) (ktrTop dp un gd cn cs L a ccd cl outer) (call (.ref 166) [.ref d, .ref b, .int n tn]) Q E s := by
  revert X; k_fill; intro X
  refine wpAny_call ?_
  k_dflt (refine' code_defT ?k1 ?k2 ?k3 ?k4 ?k5 ?kd ?kA ?kF ?kK ?k6 ?k7 ?k8 ?k9 ?kB ?kD ?_ ?c2 ?c3 ?c4; (case kA => exact rfl); (case kF => exact rfl); (case kK => assumption); (case k1 => k_asm); (case k2 => k_asm); (case k3 => k_asm); (case k4 => k_asm); (case k5 => k_asm); (case kd => assumption); (case k6 => k_is); (case k7 => k_is); (case k8 => ktr_room); (case k9 => exact BindsTo.of_eq rfl); (case kB => exact rfl); (case kD => decide +kernel); (case c2 => exact rfl); (case c3 => exact rfl); (case c4 => exact rfl); k_whole; intro g' L' h' tk' cells' FG' F' N' Y' B' X' T' D' T0' l1; k_cells Y'; (try simp only [List.cons_append, List.nil_append] at N'); (try dsimp only); (try k_fold))
  have C1 := chd165 X'
  obtain ⟨td, tb, lod, lob, db, d1, d2, b1, b2, rd, rb, r1, r2, te, tq⟩ := K
  have hc := (inv_ok I).len
  have db := neN db
  have d1 := neN d1
  have d2 := neN d2
  have b1 := neN b1
  have b2 := neN b2
  have hdL := lt_hd l1
  have hbL := lt_hd (lt_tl l1)
  have h1L := lt_hd (lt_tl (lt_tl l1))
  have h2L := lt_hd (lt_tl (lt_tl (lt_tl l1)))
  have hrL := lt_tl (lt_tl (lt_tl (lt_tl l1)))
  have hr0 : ∀ q ∈ rest, q.1 ≠ L' := ne_up 0 hrL
  have hr1 : ∀ q ∈ rest, q.1 ≠ L' + 1 := ne_up 1 hrL
  have hr2 : ∀ q ∈ rest, q.1 ≠ L' + 1 + 1 := ne_up 2 hrL
  k_with_none
  repeat' (first
    | (k_unfold; (try dsimp only))
    | (k_end; wrow_close)
    | ((with_reducible show LeaveT _ _ _ _ _ _ _ _ _ _ _); first | (with_reducible ((k_dflt (refine' (fun F N T z1 => leaveT_ T F N z1) (by k_asm) (by k_asm) (by with_reducible assumption) ?_; k_whole); intro _ _ _ _ _ _))) | ((k_dflt (refine' (fun F N T z1 => leaveT_ T F N z1) (by k_asm) (by k_asm) (by with_reducible assumption) ?_; k_whole); intro _ _ _ _ _ _)))
    | ((with_reducible show wpAny _ _ (eval (Expr.Lambda _ _ _ _) _) _ _ _); first | (with_reducible ((k_here; k_dflt (refine' lamE (by k_asm) (by k_asm) (by k_asm) (by with_reducible assumption) (by k_updF) (by with_reducible assumption) (by intro _ hq; repeat (first | exact hq | apply List.mem_cons_of_mem)) (by exact rfl) (by exact rfl) ?_); intro _ _ _ _ _ _ _ _ _ _ N' _ _ _ _ l1' _; (have z2' := lt_hd l1'); (try dsimp only at N')))) | ((k_here; k_dflt (refine' lamE (by k_asm) (by k_asm) (by k_asm) (by with_reducible assumption) (by k_updF) (by with_reducible assumption) (by intro _ hq; repeat (first | exact hq | apply List.mem_cons_of_mem)) (by exact rfl) (by exact rfl) ?_); intro _ _ _ _ _ _ _ _ _ _ N' _ _ _ _ l1' _; (have z2' := lt_hd l1'); (try dsimp only at N'))))
    | ((with_reducible show wpAny _ _ (call (Value.ref _) _) _ _ _); first | (with_reducible ((k_here; k_dflt (first | ((with_reducible show wpAny _ _ (call (Value.ref 145) _) _ _ _); refine heardHere ?_) | (refine' (fun z1 z2 B F X N T k d u h rr r3 => law_typed_spec B F X N T k d u z1 z2 h r3 rr) _ _ (by k_asm) (by k_asm) (by k_asm) (by k_asm) (by k_asm) (by rfl) (by first | exact room1 (by with_reducible assumption) (by decide) | ktr_room) (by first | exact units1 (by with_reducible assumption) (by decide) | ktr_units) (by with_reducible assumption) ?_ ?_; (focus (intro _ _ _ _ _ h' tk' F' N' l1'; (have z1' := lt_hd l1'); (try k_fold))); rotate_left; (focus (intro _ _ _ _ _ _ _ _ l1'; (have z1' := lt_hd l1'); (try k_fold))); rotate_left) | (refine' (fun z1 z2 z3 z4 z5 z6 z7 z8 B F X N T k d u hm U lo TD hc hx h0 rU rP rS rN => law_put_spec B F X N T k d u z1 z2 z3 z4 z5 z6 z7 z8 hm U lo TD hc hx h0 rN rS rP rU) _ _ _ _ _ _ _ _ (by k_asm) (by k_asm) (by k_asm) (by k_asm) (by k_asm) (by rfl) (by first | exact room1 (by with_reducible assumption) (by decide) | ktr_room) (by first | exact units1 (by with_reducible assumption) (by decide) | ktr_units) (by k_mem) (by k_updF) (by with_reducible assumption) (by with_reducible assumption) (by with_reducible assumption) (by exact text_len _) (by exact line_bnd _) ?_ ?_ ?_ ?_; (focus (intro hi' hs' _ t' h' tk' F' N'; (try k_fold))); rotate_left; (focus (intro hi' _ _ t' _ h' tk' F' N' _; (try dsimp only at N'); (try k_fold))); rotate_left; (focus (intro _ _ _ _ _ _ _ N' _; (try dsimp only at N'); (try k_fold))); rotate_left; (focus (intro _ _ _ _ _ _; (try k_fold))); rotate_left))))) | ((k_here; k_dflt (first | ((with_reducible show wpAny _ _ (call (Value.ref 145) _) _ _ _); refine heardHere ?_) | (refine' (fun z1 z2 B F X N T k d u h rr r3 => law_typed_spec B F X N T k d u z1 z2 h r3 rr) _ _ (by k_asm) (by k_asm) (by k_asm) (by k_asm) (by k_asm) (by rfl) (by first | exact room1 (by with_reducible assumption) (by decide) | ktr_room) (by first | exact units1 (by with_reducible assumption) (by decide) | ktr_units) (by with_reducible assumption) ?_ ?_; (focus (intro _ _ _ _ _ h' tk' F' N' l1'; (have z1' := lt_hd l1'); (try k_fold))); rotate_left; (focus (intro _ _ _ _ _ _ _ _ l1'; (have z1' := lt_hd l1'); (try k_fold))); rotate_left) | (refine' (fun z1 z2 z3 z4 z5 z6 z7 z8 B F X N T k d u hm U lo TD hc hx h0 rU rP rS rN => law_put_spec B F X N T k d u z1 z2 z3 z4 z5 z6 z7 z8 hm U lo TD hc hx h0 rN rS rP rU) _ _ _ _ _ _ _ _ (by k_asm) (by k_asm) (by k_asm) (by k_asm) (by k_asm) (by rfl) (by first | exact room1 (by with_reducible assumption) (by decide) | ktr_room) (by first | exact units1 (by with_reducible assumption) (by decide) | ktr_units) (by k_mem) (by k_updF) (by with_reducible assumption) (by with_reducible assumption) (by with_reducible assumption) (by exact text_len _) (by exact line_bnd _) ?_ ?_ ?_ ?_; (focus (intro hi' hs' _ t' h' tk' F' N'; (try k_fold))); rotate_left; (focus (intro hi' _ _ t' _ h' tk' F' N' _; (try dsimp only at N'); (try k_fold))); rotate_left; (focus (intro _ _ _ _ _ _ _ N' _; (try dsimp only at N'); (try k_fold))); rotate_left; (focus (intro _ _ _ _ _ _; (try k_fold))); rotate_left)))))
    | (first | (with_reducible ((k_here; (with_reducible show wpAny _ _ (eval (Expr.Call (Expr.Name _ _) _ [] _) _) _ _ _); k_dflt (refine Call_ ?_)))) | ((k_here; (with_reducible show wpAny _ _ (eval (Expr.Call (Expr.Name _ _) _ [] _) _) _ _ _); k_dflt (refine Call_ ?_))))
    | ((with_reducible show wpAny _ _ (storeName _ _ _) _ _ _); first | (with_reducible ((k_here; k_dflt (refine' (fun a b F N c U d z1 => storeX_C F N c U d z1 a b) (by rfl) (by rfl) (by k_asm) (by k_asm) (by rfl) (by k_updF) (by k_asm) ?_; k_whole); intro _ _ _ N' _; (try dsimp only at N')))) | ((k_here; k_dflt (refine' (fun a b F N c U d z1 => storeX_C F N c U d z1 a b) (by rfl) (by rfl) (by k_asm) (by k_asm) (by rfl) (by k_updF) (by k_asm) ?_; k_whole); intro _ _ _ N' _; (try dsimp only at N'))))
    | ((with_reducible show wpAny _ _ (storeName _ _ _) _ _ _); k_here; k_dflt (first | (refine' storeAI s (by rfl) (by rfl) (by k_asm) (by k_asm) rfl rfl rfl ?_; k_whole; intro _ _ _ _ _) | (refine' storeAS s (by rfl) (by rfl) (by k_asm) (by k_asm) rfl rfl rfl ?_; k_whole; intro _ _ _ _ _) | (refine' storeA s (by rfl) (by rfl) (by k_asm) (by k_asm) rfl rfl rfl ?_; k_whole; intro _ _ _ _)); (try k_sweep))
    | ((with_reducible show wpAny _ _ (exec _ _) _ _ _); k_here; k_dflt (refine' anchorE s (by k_asm) rfl rfl rfl rfl ?_; k_whole; intro _); (try k_fold); walk1)
    | ((with_reducible show wpAny _ _ (exec _ _) _ _ _); k_here; k_fold; walk1)
    | walk1
    | (dsimp only; walk1)
    | (leave1; walk_say "STEP leave1"; try dsimp only)
    | fail "no step")
  · unfold HeardHere
    have hne := (by assumption : ∀ (x : Addr) (ox : Obj), (x, ox) ∈ _ → (∀ q ∈ rest, q.1 ≠ x) → @Ne Nat _ x)
    have n1 := hne d o (by k_mem) rd
    have n2 := hne b _ (by k_mem) rb
    have n3 := hne 161 _ (by k_mem) r1
    have n4 := hne 168 _ (by k_mem) r2
    have tg' := (by with_reducible assumption : TabGood qualE _ (_ :: rest))
    have hff : formOf n ≠ 3 := by with_reducible assumption
    have hl0 := line_bnd n
    obtain ⟨i1, i2, i3, i4, i5⟩ := in_facts hff
    have hln : lineOf n ≤ 65529 := by with_reducible assumption
    have hsf : (Txt.stripChars (textOf n) (Str.ofString " ") != Str.ofString "") = false := by with_reducible assumption
    have hhs : sHas c (lineOf n) = false := by with_reducible assumption
    have i4 : pNum (rowIn n) = lineOf n := by rw [i4]; omega
    refine' heardE_put B' ?FUL X' ?NUL T' XB TB D' rfl ?dUL ?uUL _ _ _ _ _ _ _ _ _ _ _ _ _ _ _ _ ?hf0UL ?hocUL ?hoc1UL ?hoc2UL ?hc1UL ?hc2UL ?hp1UL _ ?hp2UL ?ht1UL _ _ ?ht2UL _ _ _ ?hmUL ?UUL lod td hc i1 i2 ?h0UL ?h1UL ?hrUL ?r0UL ?rSUL ?rPUL ?erUL
    case FUL => k_asm
    case NUL => k_asm
    case dUL => ktr_room
    case uUL => ktr_units
    case hf0UL => k_mem
    case hocUL => k_mem
    case hoc1UL => with_reducible assumption
    case hoc2UL => with_reducible assumption
    case hc1UL => rfl
    case hc2UL => rfl
    case hp1UL => k_mem
    case hp2UL => k_asm
    case ht1UL => k_mem
    case ht2UL => k_asm
    case hmUL => k_mem
    case UUL => k_updF
    case h0UL => rw [i4]; exact hl0
    case h1UL => rw [i4]; exact hln
    case hrUL => rw [i5]; exact text_len n
    case r0UL => exact fun e => absurd e i3
    case rSUL => intro _ e; rw [i5] at e; exact absurd e (by rw [hsf]; decide)
    case rPUL => intro _ _ e; rw [i4] at e; exact absurd e (by rw [hhs]; decide)
    intro _ _ _ h₀' D1 t1 tc1 h1' tk1' z1 z2 z3 z4 z5
    have X0 := XB.keeps z2.stays
    have T0 := TB.keeps z2.stays
    repeat' (first
      | (k_unfold; (try dsimp only))
      | (k_end; wrow_close)
      | ((with_reducible show LeaveT _ _ _ _ _ _ _ _ _ _ _); first | (with_reducible ((k_dflt (refine' (fun F N T z1 => leaveT_ T F N z1) (by k_asm) (by k_asm) (by with_reducible assumption) ?_; k_whole); intro _ _ _ _ _ _))) | ((k_dflt (refine' (fun F N T z1 => leaveT_ T F N z1) (by k_asm) (by k_asm) (by with_reducible assumption) ?_; k_whole); intro _ _ _ _ _ _)))
      | ((with_reducible show wpAny _ _ (eval (Expr.Lambda _ _ _ _) _) _ _ _); first | (with_reducible ((k_here; k_dflt (refine' lamE (by k_asm) (by k_asm) (by k_asm) (by with_reducible assumption) (by k_updF) (by with_reducible assumption) (by intro _ hq; repeat (first | exact hq | apply List.mem_cons_of_mem)) (by exact rfl) (by exact rfl) ?_); intro _ _ _ _ _ _ _ _ _ _ N' _ _ _ _ l1' _; (have z2' := lt_hd l1'); (try dsimp only at N')))) | ((k_here; k_dflt (refine' lamE (by k_asm) (by k_asm) (by k_asm) (by with_reducible assumption) (by k_updF) (by with_reducible assumption) (by intro _ hq; repeat (first | exact hq | apply List.mem_cons_of_mem)) (by exact rfl) (by exact rfl) ?_); intro _ _ _ _ _ _ _ _ _ _ N' _ _ _ _ l1' _; (have z2' := lt_hd l1'); (try dsimp only at N'))))
      | ((with_reducible show wpAny _ _ (call (Value.ref _) _) _ _ _); first | (with_reducible ((k_here; k_dflt (first | ((with_reducible show wpAny _ _ (call (Value.ref 145) _) _ _ _); refine heardHere ?_) | (refine' (fun z1 z2 B F X N T k d u h rr r3 => law_typed_spec B F X N T k d u z1 z2 h r3 rr) _ _ (by k_asm) (by k_asm) (by k_asm) (by k_asm) (by k_asm) (by rfl) (by first | exact room1 (by with_reducible assumption) (by decide) | ktr_room) (by first | exact units1 (by with_reducible assumption) (by decide) | ktr_units) (by with_reducible assumption) ?_ ?_; (focus (intro _ _ _ _ _ h' tk' F' N' l1'; (have z1' := lt_hd l1'); (try k_fold))); rotate_left; (focus (intro _ _ _ _ _ _ _ _ l1'; (have z1' := lt_hd l1'); (try k_fold))); rotate_left) | (refine' (fun z1 z2 z3 z4 z5 z6 z7 z8 B F X N T k d u hm U lo TD hc hx h0 rU rP rS rN => law_put_spec B F X N T k d u z1 z2 z3 z4 z5 z6 z7 z8 hm U lo TD hc hx h0 rN rS rP rU) _ _ _ _ _ _ _ _ (by k_asm) (by k_asm) (by k_asm) (by k_asm) (by k_asm) (by rfl) (by first | exact room1 (by with_reducible assumption) (by decide) | ktr_room) (by first | exact units1 (by with_reducible assumption) (by decide) | ktr_units) (by k_mem) (by k_updF) (by with_reducible assumption) (by with_reducible assumption) (by with_reducible assumption) (by exact text_len _) (by exact line_bnd _) ?_ ?_ ?_ ?_; (focus (intro hi' hs' _ t' h' tk' F' N'; (try k_fold))); rotate_left; (focus (intro hi' _ _ t' _ h' tk' F' N' _; (try dsimp only at N'); (try k_fold))); rotate_left; (focus (intro _ _ _ _ _ _ _ N' _; (try dsimp only at N'); (try k_fold))); rotate_left; (focus (intro _ _ _ _ _ _; (try k_fold))); rotate_left))))) | ((k_here; k_dflt (first | ((with_reducible show wpAny _ _ (call (Value.ref 145) _) _ _ _); refine heardHere ?_) | (refine' (fun z1 z2 B F X N T k d u h rr r3 => law_typed_spec B F X N T k d u z1 z2 h r3 rr) _ _ (by k_asm) (by k_asm) (by k_asm) (by k_asm) (by k_asm) (by rfl) (by first | exact room1 (by with_reducible assumption) (by decide) | ktr_room) (by first | exact units1 (by with_reducible assumption) (by decide) | ktr_units) (by with_reducible assumption) ?_ ?_; (focus (intro _ _ _ _ _ h' tk' F' N' l1'; (have z1' := lt_hd l1'); (try k_fold))); rotate_left; (focus (intro _ _ _ _ _ _ _ _ l1'; (have z1' := lt_hd l1'); (try k_fold))); rotate_left) | (refine' (fun z1 z2 z3 z4 z5 z6 z7 z8 B F X N T k d u hm U lo TD hc hx h0 rU rP rS rN => law_put_spec B F X N T k d u z1 z2 z3 z4 z5 z6 z7 z8 hm U lo TD hc hx h0 rN rS rP rU) _ _ _ _ _ _ _ _ (by k_asm) (by k_asm) (by k_asm) (by k_asm) (by k_asm) (by rfl) (by first | exact room1 (by with_reducible assumption) (by decide) | ktr_room) (by first | exact units1 (by with_reducible assumption) (by decide) | ktr_units) (by k_mem) (by k_updF) (by with_reducible assumption) (by with_reducible assumption) (by with_reducible assumption) (by exact text_len _) (by exact line_bnd _) ?_ ?_ ?_ ?_; (focus (intro hi' hs' _ t' h' tk' F' N'; (try k_fold))); rotate_left; (focus (intro hi' _ _ t' _ h' tk' F' N' _; (try dsimp only at N'); (try k_fold))); rotate_left; (focus (intro _ _ _ _ _ _ _ N' _; (try dsimp only at N'); (try k_fold))); rotate_left; (focus (intro _ _ _ _ _ _; (try k_fold))); rotate_left)))))
      | (first | (with_reducible ((k_here; (with_reducible show wpAny _ _ (eval (Expr.Call (Expr.Name _ _) _ [] _) _) _ _ _); k_dflt (refine Call_ ?_)))) | ((k_here; (with_reducible show wpAny _ _ (eval (Expr.Call (Expr.Name _ _) _ [] _) _) _ _ _); k_dflt (refine Call_ ?_))))
      | ((with_reducible show wpAny _ _ (storeName _ _ _) _ _ _); first | (with_reducible ((k_here; k_dflt (refine' (fun a b F N c U d z1 => storeX_C F N c U d z1 a b) (by rfl) (by rfl) (by k_asm) (by k_asm) (by rfl) (by k_updF) (by k_asm) ?_; k_whole); intro _ _ _ N' _; (try dsimp only at N')))) | ((k_here; k_dflt (refine' (fun a b F N c U d z1 => storeX_C F N c U d z1 a b) (by rfl) (by rfl) (by k_asm) (by k_asm) (by rfl) (by k_updF) (by k_asm) ?_; k_whole); intro _ _ _ N' _; (try dsimp only at N'))))
      | ((with_reducible show wpAny _ _ (storeName _ _ _) _ _ _); k_here; k_dflt (first | (refine' storeAI s (by rfl) (by rfl) (by k_asm) (by k_asm) rfl rfl rfl ?_; k_whole; intro _ _ _ _ _) | (refine' storeAS s (by rfl) (by rfl) (by k_asm) (by k_asm) rfl rfl rfl ?_; k_whole; intro _ _ _ _ _) | (refine' storeA s (by rfl) (by rfl) (by k_asm) (by k_asm) rfl rfl rfl ?_; k_whole; intro _ _ _ _)); (try k_sweep))
      | ((with_reducible show wpAny _ _ (exec _ _) _ _ _); k_here; k_dflt (refine' anchorE s (by k_asm) rfl rfl rfl rfl ?_; k_whole; intro _); (try k_fold); walk1)
      | ((with_reducible show wpAny _ _ (exec _ _) _ _ _); k_here; k_fold; walk1)
      | walk1
      | (dsimp only; walk1)
      | (leave1; walk_say "STEP leave1"; try dsimp only)
      | fail "no step")

    rename_i zT zB zD zF zN
    exact ret _ o ob _ qs (_ :: rest) c _ _ zT zB zD zF (zN.perm (List.forall_mem_cons.mpr ⟨by k_mem, List.forall_mem_cons.mpr ⟨by k_mem, List.forall_mem_cons.mpr ⟨by k_mem, List.forall_mem_cons.mpr ⟨by k_mem, List.forall_mem_cons.mpr ⟨by k_mem, fun q hq => by repeat (first | exact hq | apply List.mem_cons_of_mem)⟩⟩⟩⟩⟩)) ⟨td, tb, lod, lob, db, d1, d2, b1, b2, List.forall_mem_cons.mpr ⟨n1, rd⟩, List.forall_mem_cons.mpr ⟨n2, rb⟩, List.forall_mem_cons.mpr ⟨n3, r1⟩, List.forall_mem_cons.mpr ⟨n4, r2⟩, tg', tq.sub (fun q hq => .tail _ hq)⟩ I (fun q hq => .tail _ hq)
  · unfold HeardHere
    have hne := (by assumption : ∀ (x : Addr) (ox : Obj), (x, ox) ∈ _ → (∀ q ∈ rest, q.1 ≠ x) → @Ne Nat _ x)
    have n1 := hne d o (by k_mem) rd
    have n2 := hne b _ (by k_mem) rb
    have n3 := hne 161 _ (by k_mem) r1
    have n4 := hne 168 _ (by k_mem) r2
    have tg' := (by with_reducible assumption : TabGood qualE _ (_ :: rest))
    have TB1 := (by with_reducible assumption : TDict PR w _ (sDel c (lineOf n)))
    have hff : formOf n ≠ 3 := by with_reducible assumption
    have hl0 := line_bnd n
    obtain ⟨i1, i2, i3, i4, i5⟩ := in_facts hff
    have hln : lineOf n ≤ 65529 := by with_reducible assumption
    have hsf : (Txt.stripChars (textOf n) (Str.ofString " ") != Str.ofString "") = false := by with_reducible assumption
    have hhs : sHas c (lineOf n) = true := by with_reducible assumption
    have i4 : pNum (rowIn n) = lineOf n := by rw [i4]; omega
    refine' heardE_put B' ?FP X' ?NP T' XB TB D' rfl ?dP ?uP _ _ _ _ _ _ _ _ _ _ _ _ _ _ _ _ ?hf0P ?hocP ?hoc1P ?hoc2P ?hc1P ?hc2P ?hp1P _ ?hp2P ?ht1P _ _ ?ht2P _ _ _ ?hmP ?UP lod td hc i1 i2 ?h0P ?h1P ?hrP ?r0P ?rSP ?rPP ?erP
    case FP => k_asm
    case NP => k_asm
    case dP => ktr_room
    case uP => ktr_units
    case hf0P => k_mem
    case hocP => k_mem
    case hoc1P => with_reducible assumption
    case hoc2P => with_reducible assumption
    case hc1P => rfl
    case hc2P => rfl
    case hp1P => k_mem
    case hp2P => k_asm
    case ht1P => k_mem
    case ht2P => k_asm
    case hmP => k_mem
    case UP => k_updF
    case h0P => rw [i4]; exact hl0
    case h1P => rw [i4]; exact hln
    case hrP => rw [i5]; exact text_len n
    case r0P => exact fun e => absurd e i3
    case rSP => intro _ e; rw [i5] at e; exact absurd e (by rw [hsf]; decide)
    case erP => intro _ _ e; rw [i4] at e; exact absurd e (by rw [hhs]; decide)
    rw [i4]
    intro _ _ _ o1 h₀' D1 t1 h1' tk1' TD1 z1 z2 z3 z4 z5
    (try dsimp only at z5)
    have X0 := XB.keeps z2.stays
    have T0 := TB.keeps z2.stays
    repeat' (first
      | (k_unfold; (try dsimp only))
      | (k_end; wrow_close)
      | ((with_reducible show LeaveT _ _ _ _ _ _ _ _ _ _ _); first | (with_reducible ((k_dflt (refine' (fun F N T z1 => leaveT_ T F N z1) (by k_asm) (by k_asm) (by with_reducible assumption) ?_; k_whole); intro _ _ _ _ _ _))) | ((k_dflt (refine' (fun F N T z1 => leaveT_ T F N z1) (by k_asm) (by k_asm) (by with_reducible assumption) ?_; k_whole); intro _ _ _ _ _ _)))
      | ((with_reducible show wpAny _ _ (eval (Expr.Lambda _ _ _ _) _) _ _ _); first | (with_reducible ((k_here; k_dflt (refine' lamE (by k_asm) (by k_asm) (by k_asm) (by with_reducible assumption) (by k_updF) (by with_reducible assumption) (by intro _ hq; repeat (first | exact hq | apply List.mem_cons_of_mem)) (by exact rfl) (by exact rfl) ?_); intro _ _ _ _ _ _ _ _ _ _ N' _ _ _ _ l1' _; (have z2' := lt_hd l1'); (try dsimp only at N')))) | ((k_here; k_dflt (refine' lamE (by k_asm) (by k_asm) (by k_asm) (by with_reducible assumption) (by k_updF) (by with_reducible assumption) (by intro _ hq; repeat (first | exact hq | apply List.mem_cons_of_mem)) (by exact rfl) (by exact rfl) ?_); intro _ _ _ _ _ _ _ _ _ _ N' _ _ _ _ l1' _; (have z2' := lt_hd l1'); (try dsimp only at N'))))
      | ((with_reducible show wpAny _ _ (call (Value.ref _) _) _ _ _); first | (with_reducible ((k_here; k_dflt (first | ((with_reducible show wpAny _ _ (call (Value.ref 145) _) _ _ _); refine heardHere ?_) | (refine' (fun z1 z2 B F X N T k d u h rr r3 => law_typed_spec B F X N T k d u z1 z2 h r3 rr) _ _ (by k_asm) (by k_asm) (by k_asm) (by k_asm) (by k_asm) (by rfl) (by first | exact room1 (by with_reducible assumption) (by decide) | ktr_room) (by first | exact units1 (by with_reducible assumption) (by decide) | ktr_units) (by with_reducible assumption) ?_ ?_; (focus (intro _ _ _ _ _ h' tk' F' N' l1'; (have z1' := lt_hd l1'); (try k_fold))); rotate_left; (focus (intro _ _ _ _ _ _ _ _ l1'; (have z1' := lt_hd l1'); (try k_fold))); rotate_left) | (refine' (fun z1 z2 z3 z4 z5 z6 z7 z8 B F X N T k d u hm U lo TD hc hx h0 rU rP rS rN => law_put_spec B F X N T k d u z1 z2 z3 z4 z5 z6 z7 z8 hm U lo TD hc hx h0 rN rS rP rU) _ _ _ _ _ _ _ _ (by k_asm) (by k_asm) (by k_asm) (by k_asm) (by k_asm) (by rfl) (by first | exact room1 (by with_reducible assumption) (by decide) | ktr_room) (by first | exact units1 (by with_reducible assumption) (by decide) | ktr_units) (by k_mem) (by k_updF) (by with_reducible assumption) (by with_reducible assumption) (by with_reducible assumption) (by exact text_len _) (by exact line_bnd _) ?_ ?_ ?_ ?_; (focus (intro hi' hs' _ t' h' tk' F' N'; (try k_fold))); rotate_left; (focus (intro hi' _ _ t' _ h' tk' F' N' _; (try dsimp only at N'); (try k_fold))); rotate_left; (focus (intro _ _ _ _ _ _ _ N' _; (try dsimp only at N'); (try k_fold))); rotate_left; (focus (intro _ _ _ _ _ _; (try k_fold))); rotate_left))))) | ((k_here; k_dflt (first | ((with_reducible show wpAny _ _ (call (Value.ref 145) _) _ _ _); refine heardHere ?_) | (refine' (fun z1 z2 B F X N T k d u h rr r3 => law_typed_spec B F X N T k d u z1 z2 h r3 rr) _ _ (by k_asm) (by k_asm) (by k_asm) (by k_asm) (by k_asm) (by rfl) (by first | exact room1 (by with_reducible assumption) (by decide) | ktr_room) (by first | exact units1 (by with_reducible assumption) (by decide) | ktr_units) (by with_reducible assumption) ?_ ?_; (focus (intro _ _ _ _ _ h' tk' F' N' l1'; (have z1' := lt_hd l1'); (try k_fold))); rotate_left; (focus (intro _ _ _ _ _ _ _ _ l1'; (have z1' := lt_hd l1'); (try k_fold))); rotate_left) | (refine' (fun z1 z2 z3 z4 z5 z6 z7 z8 B F X N T k d u hm U lo TD hc hx h0 rU rP rS rN => law_put_spec B F X N T k d u z1 z2 z3 z4 z5 z6 z7 z8 hm U lo TD hc hx h0 rN rS rP rU) _ _ _ _ _ _ _ _ (by k_asm) (by k_asm) (by k_asm) (by k_asm) (by k_asm) (by rfl) (by first | exact room1 (by with_reducible assumption) (by decide) | ktr_room) (by first | exact units1 (by with_reducible assumption) (by decide) | ktr_units) (by k_mem) (by k_updF) (by with_reducible assumption) (by with_reducible assumption) (by with_reducible assumption) (by exact text_len _) (by exact line_bnd _) ?_ ?_ ?_ ?_; (focus (intro hi' hs' _ t' h' tk' F' N'; (try k_fold))); rotate_left; (focus (intro hi' _ _ t' _ h' tk' F' N' _; (try dsimp only at N'); (try k_fold))); rotate_left; (focus (intro _ _ _ _ _ _ _ N' _; (try dsimp only at N'); (try k_fold))); rotate_left; (focus (intro _ _ _ _ _ _; (try k_fold))); rotate_left)))))
      | (first | (with_reducible ((k_here; (with_reducible show wpAny _ _ (eval (Expr.Call (Expr.Name _ _) _ [] _) _) _ _ _); k_dflt (refine Call_ ?_)))) | ((k_here; (with_reducible show wpAny _ _ (eval (Expr.Call (Expr.Name _ _) _ [] _) _) _ _ _); k_dflt (refine Call_ ?_))))
      | ((with_reducible show wpAny _ _ (storeName _ _ _) _ _ _); first | (with_reducible ((k_here; k_dflt (refine' (fun a b F N c U d z1 => storeX_C F N c U d z1 a b) (by rfl) (by rfl) (by k_asm) (by k_asm) (by rfl) (by k_updF) (by k_asm) ?_; k_whole); intro _ _ _ N' _; (try dsimp only at N')))) | ((k_here; k_dflt (refine' (fun a b F N c U d z1 => storeX_C F N c U d z1 a b) (by rfl) (by rfl) (by k_asm) (by k_asm) (by rfl) (by k_updF) (by k_asm) ?_; k_whole); intro _ _ _ N' _; (try dsimp only at N'))))
      | ((with_reducible show wpAny _ _ (storeName _ _ _) _ _ _); k_here; k_dflt (first | (refine' storeAI s (by rfl) (by rfl) (by k_asm) (by k_asm) rfl rfl rfl ?_; k_whole; intro _ _ _ _ _) | (refine' storeAS s (by rfl) (by rfl) (by k_asm) (by k_asm) rfl rfl rfl ?_; k_whole; intro _ _ _ _ _) | (refine' storeA s (by rfl) (by rfl) (by k_asm) (by k_asm) rfl rfl rfl ?_; k_whole; intro _ _ _ _)); (try k_sweep))
      | ((with_reducible show wpAny _ _ (exec _ _) _ _ _); k_here; k_dflt (refine' anchorE s (by k_asm) rfl rfl rfl rfl ?_; k_whole; intro _); (try k_fold); walk1)
      | ((with_reducible show wpAny _ _ (exec _ _) _ _ _); k_here; k_fold; walk1)
      | walk1
      | (dsimp only; walk1)
      | (leave1; walk_say "STEP leave1"; try dsimp only)
      | fail "no step")

    rename_i zT zB zD zF zN
    exact ret _ o1 _ _ qs (_ :: rest) (sDel c (lineOf n)) _ _ zT zB zD zF (zN.perm (List.forall_mem_cons.mpr ⟨by k_mem, List.forall_mem_cons.mpr ⟨by k_mem, List.forall_mem_cons.mpr ⟨by k_mem, List.forall_mem_cons.mpr ⟨by k_mem, List.forall_mem_cons.mpr ⟨by k_mem, fun q hq => by repeat (first | exact hq | apply List.mem_cons_of_mem)⟩⟩⟩⟩⟩)) ⟨TD1, TB1, lod, lob, db, d1, d2, b1, b2, List.forall_mem_cons.mpr ⟨n1, rd⟩, List.forall_mem_cons.mpr ⟨n2, rb⟩, List.forall_mem_cons.mpr ⟨n3, r1⟩, List.forall_mem_cons.mpr ⟨n4, r2⟩, tg', tq.sub (fun q hq => .tail _ hq)⟩ (inv_del I) (fun q hq => .tail _ hq)
  · unfold HeardHere
    have hne := (by assumption : ∀ (x : Addr) (ox : Obj), (x, ox) ∈ _ → (∀ q ∈ rest, q.1 ≠ x) → @Ne Nat _ x)
    have n1 := hne d o (by k_mem) rd
    have n2 := hne b _ (by k_mem) rb
    have n3 := hne 161 _ (by k_mem) r1
    have n4 := hne 168 _ (by k_mem) r2
    have tg' := (by with_reducible assumption : TabGood qualE _ (_ :: rest))
    have hff : formOf n ≠ 3 := by with_reducible assumption
    have hl0 := line_bnd n
    obtain ⟨i1, i2, i3, i4, i5⟩ := in_facts hff
    have hln : lineOf n ≤ 65529 := by with_reducible assumption
    have hsf : (Txt.stripChars (textOf n) (Str.ofString " ") != Str.ofString "") = true := by with_reducible assumption
    have i4 : pNum (rowIn n) = lineOf n := by rw [i4]; omega
    refine' heardE_put B' ?FS X' ?NS T' XB TB D' rfl ?dS ?uS _ _ _ _ _ _ _ _ _ _ _ _ _ _ _ _ ?hf0S ?hocS ?hoc1S ?hoc2S ?hc1S ?hc2S ?hp1S _ ?hp2S ?ht1S _ _ ?ht2S _ _ _ ?hmS ?US lod td hc i1 i2 ?h0S ?h1S ?hrS ?r0S ?rSS ?rPS ?erS
    case FS => k_asm
    case NS => k_asm
    case dS => ktr_room
    case uS => ktr_units
    case hf0S => k_mem
    case hocS => k_mem
    case hoc1S => with_reducible assumption
    case hoc2S => with_reducible assumption
    case hc1S => rfl
    case hc2S => rfl
    case hp1S => k_mem
    case hp2S => k_asm
    case ht1S => k_mem
    case ht2S => k_asm
    case hmS => k_mem
    case US => k_updF
    case h0S => rw [i4]; exact hl0
    case h1S => rw [i4]; exact hln
    case hrS => rw [i5]; exact text_len n
    case r0S => exact fun e => absurd e i3
    case rPS => intro _ e; rw [i5] at e; exact absurd e (by rw [hsf]; decide)
    case erS => intro _ e; rw [i5] at e; exact absurd e (by rw [hsf]; decide)
    rw [i4, i5]
    intro _ _ o1 h₀' D1 t1 h1' tk1' TD1 z1 z2 z3 z4 z5
    (try dsimp only at z5)
    have X0 := XB.keeps z2.stays
    have T0 := TB.keeps z2.stays
    repeat' (first
      | (k_unfold; (try dsimp only))
      | (k_end; wrow_close)
      | ((with_reducible show LeaveT _ _ _ _ _ _ _ _ _ _ _); first | (with_reducible ((k_dflt (refine' (fun F N T z1 => leaveT_ T F N z1) (by k_asm) (by k_asm) (by with_reducible assumption) ?_; k_whole); intro _ _ _ _ _ _))) | ((k_dflt (refine' (fun F N T z1 => leaveT_ T F N z1) (by k_asm) (by k_asm) (by with_reducible assumption) ?_; k_whole); intro _ _ _ _ _ _)))
      | ((with_reducible show wpAny _ _ (eval (Expr.Lambda _ _ _ _) _) _ _ _); first | (with_reducible ((k_here; k_dflt (refine' lamE (by k_asm) (by k_asm) (by k_asm) (by with_reducible assumption) (by k_updF) (by with_reducible assumption) (by intro _ hq; repeat (first | exact hq | apply List.mem_cons_of_mem)) (by exact rfl) (by exact rfl) ?_); intro _ _ _ _ _ _ _ _ _ _ N' _ _ _ _ l1' _; (have z2' := lt_hd l1'); (try dsimp only at N')))) | ((k_here; k_dflt (refine' lamE (by k_asm) (by k_asm) (by k_asm) (by with_reducible assumption) (by k_updF) (by with_reducible assumption) (by intro _ hq; repeat (first | exact hq | apply List.mem_cons_of_mem)) (by exact rfl) (by exact rfl) ?_); intro _ _ _ _ _ _ _ _ _ _ N' _ _ _ _ l1' _; (have z2' := lt_hd l1'); (try dsimp only at N'))))
      | ((with_reducible show wpAny _ _ (call (Value.ref _) _) _ _ _); first | (with_reducible ((k_here; k_dflt (first | ((with_reducible show wpAny _ _ (call (Value.ref 145) _) _ _ _); refine heardHere ?_) | (refine' (fun z1 z2 B F X N T k d u h rr r3 => law_typed_spec B F X N T k d u z1 z2 h r3 rr) _ _ (by k_asm) (by k_asm) (by k_asm) (by k_asm) (by k_asm) (by rfl) (by first | exact room1 (by with_reducible assumption) (by decide) | ktr_room) (by first | exact units1 (by with_reducible assumption) (by decide) | ktr_units) (by with_reducible assumption) ?_ ?_; (focus (intro _ _ _ _ _ h' tk' F' N' l1'; (have z1' := lt_hd l1'); (try k_fold))); rotate_left; (focus (intro _ _ _ _ _ _ _ _ l1'; (have z1' := lt_hd l1'); (try k_fold))); rotate_left) | (refine' (fun z1 z2 z3 z4 z5 z6 z7 z8 B F X N T k d u hm U lo TD hc hx h0 rU rP rS rN => law_put_spec B F X N T k d u z1 z2 z3 z4 z5 z6 z7 z8 hm U lo TD hc hx h0 rN rS rP rU) _ _ _ _ _ _ _ _ (by k_asm) (by k_asm) (by k_asm) (by k_asm) (by k_asm) (by rfl) (by first | exact room1 (by with_reducible assumption) (by decide) | ktr_room) (by first | exact units1 (by with_reducible assumption) (by decide) | ktr_units) (by k_mem) (by k_updF) (by with_reducible assumption) (by with_reducible assumption) (by with_reducible assumption) (by exact text_len _) (by exact line_bnd _) ?_ ?_ ?_ ?_; (focus (intro hi' hs' _ t' h' tk' F' N'; (try k_fold))); rotate_left; (focus (intro hi' _ _ t' _ h' tk' F' N' _; (try dsimp only at N'); (try k_fold))); rotate_left; (focus (intro _ _ _ _ _ _ _ N' _; (try dsimp only at N'); (try k_fold))); rotate_left; (focus (intro _ _ _ _ _ _; (try k_fold))); rotate_left))))) | ((k_here; k_dflt (first | ((with_reducible show wpAny _ _ (call (Value.ref 145) _) _ _ _); refine heardHere ?_) | (refine' (fun z1 z2 B F X N T k d u h rr r3 => law_typed_spec B F X N T k d u z1 z2 h r3 rr) _ _ (by k_asm) (by k_asm) (by k_asm) (by k_asm) (by k_asm) (by rfl) (by first | exact room1 (by with_reducible assumption) (by decide) | ktr_room) (by first | exact units1 (by with_reducible assumption) (by decide) | ktr_units) (by with_reducible assumption) ?_ ?_; (focus (intro _ _ _ _ _ h' tk' F' N' l1'; (have z1' := lt_hd l1'); (try k_fold))); rotate_left; (focus (intro _ _ _ _ _ _ _ _ l1'; (have z1' := lt_hd l1'); (try k_fold))); rotate_left) | (refine' (fun z1 z2 z3 z4 z5 z6 z7 z8 B F X N T k d u hm U lo TD hc hx h0 rU rP rS rN => law_put_spec B F X N T k d u z1 z2 z3 z4 z5 z6 z7 z8 hm U lo TD hc hx h0 rN rS rP rU) _ _ _ _ _ _ _ _ (by k_asm) (by k_asm) (by k_asm) (by k_asm) (by k_asm) (by rfl) (by first | exact room1 (by with_reducible assumption) (by decide) | ktr_room) (by first | exact units1 (by with_reducible assumption) (by decide) | ktr_units) (by k_mem) (by k_updF) (by with_reducible assumption) (by with_reducible assumption) (by with_reducible assumption) (by exact text_len _) (by exact line_bnd _) ?_ ?_ ?_ ?_; (focus (intro hi' hs' _ t' h' tk' F' N'; (try k_fold))); rotate_left; (focus (intro hi' _ _ t' _ h' tk' F' N' _; (try dsimp only at N'); (try k_fold))); rotate_left; (focus (intro _ _ _ _ _ _ _ N' _; (try dsimp only at N'); (try k_fold))); rotate_left; (focus (intro _ _ _ _ _ _; (try k_fold))); rotate_left)))))
      | (first | (with_reducible ((k_here; (with_reducible show wpAny _ _ (eval (Expr.Call (Expr.Name _ _) _ [] _) _) _ _ _); k_dflt (refine Call_ ?_)))) | ((k_here; (with_reducible show wpAny _ _ (eval (Expr.Call (Expr.Name _ _) _ [] _) _) _ _ _); k_dflt (refine Call_ ?_))))
      | ((with_reducible show wpAny _ _ (storeName _ _ _) _ _ _); first | (with_reducible ((k_here; k_dflt (refine' (fun a b F N c U d z1 => storeX_C F N c U d z1 a b) (by rfl) (by rfl) (by k_asm) (by k_asm) (by rfl) (by k_updF) (by k_asm) ?_; k_whole); intro _ _ _ N' _; (try dsimp only at N')))) | ((k_here; k_dflt (refine' (fun a b F N c U d z1 => storeX_C F N c U d z1 a b) (by rfl) (by rfl) (by k_asm) (by k_asm) (by rfl) (by k_updF) (by k_asm) ?_; k_whole); intro _ _ _ N' _; (try dsimp only at N'))))
      | ((with_reducible show wpAny _ _ (storeName _ _ _) _ _ _); k_here; k_dflt (first | (refine' storeAI s (by rfl) (by rfl) (by k_asm) (by k_asm) rfl rfl rfl ?_; k_whole; intro _ _ _ _ _) | (refine' storeAS s (by rfl) (by rfl) (by k_asm) (by k_asm) rfl rfl rfl ?_; k_whole; intro _ _ _ _ _) | (refine' storeA s (by rfl) (by rfl) (by k_asm) (by k_asm) rfl rfl rfl ?_; k_whole; intro _ _ _ _)); (try k_sweep))
      | ((with_reducible show wpAny _ _ (exec _ _) _ _ _); k_here; k_dflt (refine' anchorE s (by k_asm) rfl rfl rfl rfl ?_; k_whole; intro _); (try k_fold); walk1)
      | ((with_reducible show wpAny _ _ (exec _ _) _ _ _); k_here; k_fold; walk1)
      | walk1
      | (dsimp only; walk1)
      | (leave1; walk_say "STEP leave1"; try dsimp only)
      | fail "no step")

    have TB1 := (by with_reducible assumption : TDict PR w _ (sPut c (lineOf n) (keptOf (textOf n))))
    obtain ⟨f1, f2⟩ := kept_text hsf
    rw [f1] at TB1
    rename_i zT zB zD zF zN
    exact ret _ o1 _ _ qs (_ :: rest) (sPut c (lineOf n) (Txt.rstripChars (textOf n) (Str.ofString " "))) _ _ zT zB zD zF (zN.perm (List.forall_mem_cons.mpr ⟨by k_mem, List.forall_mem_cons.mpr ⟨by k_mem, List.forall_mem_cons.mpr ⟨by k_mem, List.forall_mem_cons.mpr ⟨by k_mem, List.forall_mem_cons.mpr ⟨by k_mem, fun q hq => by repeat (first | exact hq | apply List.mem_cons_of_mem)⟩⟩⟩⟩⟩)) ⟨TD1, TB1, lod, lob, db, d1, d2, b1, b2, List.forall_mem_cons.mpr ⟨n1, rd⟩, List.forall_mem_cons.mpr ⟨n2, rb⟩, List.forall_mem_cons.mpr ⟨n3, r1⟩, List.forall_mem_cons.mpr ⟨n4, r2⟩, tg', tq.sub (fun q hq => .tail _ hq)⟩ (inv_put I (line_key hln) f2) (fun q hq => .tail _ hq)
  · unfold HeardHere
    have hne := (by assumption : ∀ (x : Addr) (ox : Obj), (x, ox) ∈ _ → (∀ q ∈ rest, q.1 ≠ x) → @Ne Nat _ x)
    have n1 := hne d o (by k_mem) rd
    have n2 := hne b _ (by k_mem) rb
    have n3 := hne 161 _ (by k_mem) r1
    have n4 := hne 168 _ (by k_mem) r2
    have tg' := (by with_reducible assumption : TabGood qualE _ (_ :: rest))
    have hff : formOf n ≠ 3 := by with_reducible assumption
    have hl0 := line_bnd n
    obtain ⟨i1, i2, i3, i4, i5⟩ := in_facts hff
    have hln : 65529 < lineOf n := by with_reducible assumption
    have i4 : 65529 < pNum (rowIn n) := by rw [i4]; omega
    refine' heardE_sn B' ?FSN X' ?NSN T' XB TB D' rfl ?dSN ?uSN _ _ _ _ _ _ _ _ _ _ _ _ _ _ _ _ ?hf0SN ?hocSN ?hoc1SN ?hoc2SN ?hc1SN ?hc2SN ?hp1SN _ ?hp2SN ?ht1SN _ _ ?ht2SN i1 i2 i3 i4 ?erSN
    case FSN => k_asm
    case NSN => k_asm
    case dSN => ktr_room
    case uSN => ktr_units
    case hf0SN => k_mem
    case hocSN => k_mem
    case hoc1SN => with_reducible assumption
    case hoc2SN => with_reducible assumption
    case hc1SN => rfl
    case hc2SN => rfl
    case hp1SN => k_mem
    case hp2SN => k_asm
    case ht1SN => k_mem
    case ht2SN => k_asm
    intro h₀' D1 t1 tc1 h1' tk1' z1 z2 z3 z4 z5
    have X0 := XB.keeps z2.stays
    have T0 := TB.keeps z2.stays
    repeat' (first
      | (k_unfold; (try dsimp only))
      | (k_end; wrow_close)
      | ((with_reducible show LeaveT _ _ _ _ _ _ _ _ _ _ _); first | (with_reducible ((k_dflt (refine' (fun F N T z1 => leaveT_ T F N z1) (by k_asm) (by k_asm) (by with_reducible assumption) ?_; k_whole); intro _ _ _ _ _ _))) | ((k_dflt (refine' (fun F N T z1 => leaveT_ T F N z1) (by k_asm) (by k_asm) (by with_reducible assumption) ?_; k_whole); intro _ _ _ _ _ _)))
      | ((with_reducible show wpAny _ _ (eval (Expr.Lambda _ _ _ _) _) _ _ _); first | (with_reducible ((k_here; k_dflt (refine' lamE (by k_asm) (by k_asm) (by k_asm) (by with_reducible assumption) (by k_updF) (by with_reducible assumption) (by intro _ hq; repeat (first | exact hq | apply List.mem_cons_of_mem)) (by exact rfl) (by exact rfl) ?_); intro _ _ _ _ _ _ _ _ _ _ N' _ _ _ _ l1' _; (have z2' := lt_hd l1'); (try dsimp only at N')))) | ((k_here; k_dflt (refine' lamE (by k_asm) (by k_asm) (by k_asm) (by with_reducible assumption) (by k_updF) (by with_reducible assumption) (by intro _ hq; repeat (first | exact hq | apply List.mem_cons_of_mem)) (by exact rfl) (by exact rfl) ?_); intro _ _ _ _ _ _ _ _ _ _ N' _ _ _ _ l1' _; (have z2' := lt_hd l1'); (try dsimp only at N'))))
      | ((with_reducible show wpAny _ _ (call (Value.ref _) _) _ _ _); first | (with_reducible ((k_here; k_dflt (first | ((with_reducible show wpAny _ _ (call (Value.ref 145) _) _ _ _); refine heardHere ?_) | (refine' (fun z1 z2 B F X N T k d u h rr r3 => law_typed_spec B F X N T k d u z1 z2 h r3 rr) _ _ (by k_asm) (by k_asm) (by k_asm) (by k_asm) (by k_asm) (by rfl) (by first | exact room1 (by with_reducible assumption) (by decide) | ktr_room) (by first | exact units1 (by with_reducible assumption) (by decide) | ktr_units) (by with_reducible assumption) ?_ ?_; (focus (intro _ _ _ _ _ h' tk' F' N' l1'; (have z1' := lt_hd l1'); (try k_fold))); rotate_left; (focus (intro _ _ _ _ _ _ _ _ l1'; (have z1' := lt_hd l1'); (try k_fold))); rotate_left) | (refine' (fun z1 z2 z3 z4 z5 z6 z7 z8 B F X N T k d u hm U lo TD hc hx h0 rU rP rS rN => law_put_spec B F X N T k d u z1 z2 z3 z4 z5 z6 z7 z8 hm U lo TD hc hx h0 rN rS rP rU) _ _ _ _ _ _ _ _ (by k_asm) (by k_asm) (by k_asm) (by k_asm) (by k_asm) (by rfl) (by first | exact room1 (by with_reducible assumption) (by decide) | ktr_room) (by first | exact units1 (by with_reducible assumption) (by decide) | ktr_units) (by k_mem) (by k_updF) (by with_reducible assumption) (by with_reducible assumption) (by with_reducible assumption) (by exact text_len _) (by exact line_bnd _) ?_ ?_ ?_ ?_; (focus (intro hi' hs' _ t' h' tk' F' N'; (try k_fold))); rotate_left; (focus (intro hi' _ _ t' _ h' tk' F' N' _; (try dsimp only at N'); (try k_fold))); rotate_left; (focus (intro _ _ _ _ _ _ _ N' _; (try dsimp only at N'); (try k_fold))); rotate_left; (focus (intro _ _ _ _ _ _; (try k_fold))); rotate_left))))) | ((k_here; k_dflt (first | ((with_reducible show wpAny _ _ (call (Value.ref 145) _) _ _ _); refine heardHere ?_) | (refine' (fun z1 z2 B F X N T k d u h rr r3 => law_typed_spec B F X N T k d u z1 z2 h r3 rr) _ _ (by k_asm) (by k_asm) (by k_asm) (by k_asm) (by k_asm) (by rfl) (by first | exact room1 (by with_reducible assumption) (by decide) | ktr_room) (by first | exact units1 (by with_reducible assumption) (by decide) | ktr_units) (by with_reducible assumption) ?_ ?_; (focus (intro _ _ _ _ _ h' tk' F' N' l1'; (have z1' := lt_hd l1'); (try k_fold))); rotate_left; (focus (intro _ _ _ _ _ _ _ _ l1'; (have z1' := lt_hd l1'); (try k_fold))); rotate_left) | (refine' (fun z1 z2 z3 z4 z5 z6 z7 z8 B F X N T k d u hm U lo TD hc hx h0 rU rP rS rN => law_put_spec B F X N T k d u z1 z2 z3 z4 z5 z6 z7 z8 hm U lo TD hc hx h0 rN rS rP rU) _ _ _ _ _ _ _ _ (by k_asm) (by k_asm) (by k_asm) (by k_asm) (by k_asm) (by rfl) (by first | exact room1 (by with_reducible assumption) (by decide) | ktr_room) (by first | exact units1 (by with_reducible assumption) (by decide) | ktr_units) (by k_mem) (by k_updF) (by with_reducible assumption) (by with_reducible assumption) (by with_reducible assumption) (by exact text_len _) (by exact line_bnd _) ?_ ?_ ?_ ?_; (focus (intro hi' hs' _ t' h' tk' F' N'; (try k_fold))); rotate_left; (focus (intro hi' _ _ t' _ h' tk' F' N' _; (try dsimp only at N'); (try k_fold))); rotate_left; (focus (intro _ _ _ _ _ _ _ N' _; (try dsimp only at N'); (try k_fold))); rotate_left; (focus (intro _ _ _ _ _ _; (try k_fold))); rotate_left)))))
      | (first | (with_reducible ((k_here; (with_reducible show wpAny _ _ (eval (Expr.Call (Expr.Name _ _) _ [] _) _) _ _ _); k_dflt (refine Call_ ?_)))) | ((k_here; (with_reducible show wpAny _ _ (eval (Expr.Call (Expr.Name _ _) _ [] _) _) _ _ _); k_dflt (refine Call_ ?_))))
      | ((with_reducible show wpAny _ _ (storeName _ _ _) _ _ _); first | (with_reducible ((k_here; k_dflt (refine' (fun a b F N c U d z1 => storeX_C F N c U d z1 a b) (by rfl) (by rfl) (by k_asm) (by k_asm) (by rfl) (by k_updF) (by k_asm) ?_; k_whole); intro _ _ _ N' _; (try dsimp only at N')))) | ((k_here; k_dflt (refine' (fun a b F N c U d z1 => storeX_C F N c U d z1 a b) (by rfl) (by rfl) (by k_asm) (by k_asm) (by rfl) (by k_updF) (by k_asm) ?_; k_whole); intro _ _ _ N' _; (try dsimp only at N'))))
      | ((with_reducible show wpAny _ _ (storeName _ _ _) _ _ _); k_here; k_dflt (first | (refine' storeAI s (by rfl) (by rfl) (by k_asm) (by k_asm) rfl rfl rfl ?_; k_whole; intro _ _ _ _ _) | (refine' storeAS s (by rfl) (by rfl) (by k_asm) (by k_asm) rfl rfl rfl ?_; k_whole; intro _ _ _ _ _) | (refine' storeA s (by rfl) (by rfl) (by k_asm) (by k_asm) rfl rfl rfl ?_; k_whole; intro _ _ _ _)); (try k_sweep))
      | ((with_reducible show wpAny _ _ (exec _ _) _ _ _); k_here; k_dflt (refine' anchorE s (by k_asm) rfl rfl rfl rfl ?_; k_whole; intro _); (try k_fold); walk1)
      | ((with_reducible show wpAny _ _ (exec _ _) _ _ _); k_here; k_fold; walk1)
      | walk1
      | (dsimp only; walk1)
      | (leave1; walk_say "STEP leave1"; try dsimp only)
      | fail "no step")

    rename_i zT zB zD zF zN
    exact ret _ o ob _ qs (_ :: rest) c _ _ zT zB zD zF (zN.perm (List.forall_mem_cons.mpr ⟨by k_mem, List.forall_mem_cons.mpr ⟨by k_mem, List.forall_mem_cons.mpr ⟨by k_mem, List.forall_mem_cons.mpr ⟨by k_mem, List.forall_mem_cons.mpr ⟨by k_mem, fun q hq => by repeat (first | exact hq | apply List.mem_cons_of_mem)⟩⟩⟩⟩⟩)) ⟨td, tb, lod, lob, db, d1, d2, b1, b2, List.forall_mem_cons.mpr ⟨n1, rd⟩, List.forall_mem_cons.mpr ⟨n2, rb⟩, List.forall_mem_cons.mpr ⟨n3, r1⟩, List.forall_mem_cons.mpr ⟨n4, r2⟩, tg', tq.sub (fun q hq => .tail _ hq)⟩ I (fun q hq => .tail _ hq)
  · unfold HeardHere
    have hne := (by assumption : ∀ (x : Addr) (ox : Obj), (x, ox) ∈ _ → (∀ q ∈ rest, q.1 ≠ x) → @Ne Nat _ x)
    have n1 := hne d o (by k_mem) rd
    have n2 := hne b _ (by k_mem) rb
    have n3 := hne 161 _ (by k_mem) r1
    have n4 := hne 168 _ (by k_mem) r2
    have tg' := (by with_reducible assumption : TabGood qualE _ (_ :: rest))
    obtain ⟨i1, i2, i3, i4, i5, i6, i7⟩ := dir_facts n
    refine' heardE_put B' ?FDIR X' ?NDIR T' XB TB D' rfl ?dDIR ?uDIR _ _ _ _ _ _ _ _ _ _ _ _ _ _ _ _ ?hf0DIR ?hocDIR ?hoc1DIR ?hoc2DIR ?hc1DIR ?hc2DIR ?hp1DIR _ ?hp2DIR ?ht1DIR _ _ ?ht2DIR _ _ _ ?hmDIR ?UDIR lod td hc i1 i2 i4 i5 i6 ?r0DIR ?rSDIR ?rPDIR ?erDIR
    case FDIR => k_asm
    case NDIR => k_asm
    case dDIR => ktr_room
    case uDIR => ktr_units
    case hf0DIR => k_mem
    case hocDIR => k_mem
    case hoc1DIR => with_reducible assumption
    case hoc2DIR => with_reducible assumption
    case hc1DIR => rfl
    case hc2DIR => rfl
    case hp1DIR => k_mem
    case hp2DIR => k_asm
    case ht1DIR => k_mem
    case ht2DIR => k_asm
    case hmDIR => k_mem
    case UDIR => k_updF
    case rSDIR => exact fun e => absurd i3 e
    case rPDIR => exact fun e => absurd i3 e
    case erDIR => exact fun e => absurd i3 e
    rw [i7]
    intro _ h₀' D1 t1 t2 h1' tk1' z1 z2 z3 z4 z5
    have X0 := XB.keeps z2.stays
    have T0 := TB.keeps z2.stays
    repeat' (first
      | (k_unfold; (try dsimp only))
      | (k_end; wrow_close)
      | ((with_reducible show LeaveT _ _ _ _ _ _ _ _ _ _ _); first | (with_reducible ((k_dflt (refine' (fun F N T z1 => leaveT_ T F N z1) (by k_asm) (by k_asm) (by with_reducible assumption) ?_; k_whole); intro _ _ _ _ _ _))) | ((k_dflt (refine' (fun F N T z1 => leaveT_ T F N z1) (by k_asm) (by k_asm) (by with_reducible assumption) ?_; k_whole); intro _ _ _ _ _ _)))
      | ((with_reducible show wpAny _ _ (eval (Expr.Lambda _ _ _ _) _) _ _ _); first | (with_reducible ((k_here; k_dflt (refine' lamE (by k_asm) (by k_asm) (by k_asm) (by with_reducible assumption) (by k_updF) (by with_reducible assumption) (by intro _ hq; repeat (first | exact hq | apply List.mem_cons_of_mem)) (by exact rfl) (by exact rfl) ?_); intro _ _ _ _ _ _ _ _ _ _ N' _ _ _ _ l1' _; (have z2' := lt_hd l1'); (try dsimp only at N')))) | ((k_here; k_dflt (refine' lamE (by k_asm) (by k_asm) (by k_asm) (by with_reducible assumption) (by k_updF) (by with_reducible assumption) (by intro _ hq; repeat (first | exact hq | apply List.mem_cons_of_mem)) (by exact rfl) (by exact rfl) ?_); intro _ _ _ _ _ _ _ _ _ _ N' _ _ _ _ l1' _; (have z2' := lt_hd l1'); (try dsimp only at N'))))
      | ((with_reducible show wpAny _ _ (call (Value.ref _) _) _ _ _); first | (with_reducible ((k_here; k_dflt (first | ((with_reducible show wpAny _ _ (call (Value.ref 145) _) _ _ _); refine heardHere ?_) | (refine' (fun z1 z2 B F X N T k d u h rr r3 => law_typed_spec B F X N T k d u z1 z2 h r3 rr) _ _ (by k_asm) (by k_asm) (by k_asm) (by k_asm) (by k_asm) (by rfl) (by first | exact room1 (by with_reducible assumption) (by decide) | ktr_room) (by first | exact units1 (by with_reducible assumption) (by decide) | ktr_units) (by with_reducible assumption) ?_ ?_; (focus (intro _ _ _ _ _ h' tk' F' N' l1'; (have z1' := lt_hd l1'); (try k_fold))); rotate_left; (focus (intro _ _ _ _ _ _ _ _ l1'; (have z1' := lt_hd l1'); (try k_fold))); rotate_left) | (refine' (fun z1 z2 z3 z4 z5 z6 z7 z8 B F X N T k d u hm U lo TD hc hx h0 rU rP rS rN => law_put_spec B F X N T k d u z1 z2 z3 z4 z5 z6 z7 z8 hm U lo TD hc hx h0 rN rS rP rU) _ _ _ _ _ _ _ _ (by k_asm) (by k_asm) (by k_asm) (by k_asm) (by k_asm) (by rfl) (by first | exact room1 (by with_reducible assumption) (by decide) | ktr_room) (by first | exact units1 (by with_reducible assumption) (by decide) | ktr_units) (by k_mem) (by k_updF) (by with_reducible assumption) (by with_reducible assumption) (by with_reducible assumption) (by exact text_len _) (by exact line_bnd _) ?_ ?_ ?_ ?_; (focus (intro hi' hs' _ t' h' tk' F' N'; (try k_fold))); rotate_left; (focus (intro hi' _ _ t' _ h' tk' F' N' _; (try dsimp only at N'); (try k_fold))); rotate_left; (focus (intro _ _ _ _ _ _ _ N' _; (try dsimp only at N'); (try k_fold))); rotate_left; (focus (intro _ _ _ _ _ _; (try k_fold))); rotate_left))))) | ((k_here; k_dflt (first | ((with_reducible show wpAny _ _ (call (Value.ref 145) _) _ _ _); refine heardHere ?_) | (refine' (fun z1 z2 B F X N T k d u h rr r3 => law_typed_spec B F X N T k d u z1 z2 h r3 rr) _ _ (by k_asm) (by k_asm) (by k_asm) (by k_asm) (by k_asm) (by rfl) (by first | exact room1 (by with_reducible assumption) (by decide) | ktr_room) (by first | exact units1 (by with_reducible assumption) (by decide) | ktr_units) (by with_reducible assumption) ?_ ?_; (focus (intro _ _ _ _ _ h' tk' F' N' l1'; (have z1' := lt_hd l1'); (try k_fold))); rotate_left; (focus (intro _ _ _ _ _ _ _ _ l1'; (have z1' := lt_hd l1'); (try k_fold))); rotate_left) | (refine' (fun z1 z2 z3 z4 z5 z6 z7 z8 B F X N T k d u hm U lo TD hc hx h0 rU rP rS rN => law_put_spec B F X N T k d u z1 z2 z3 z4 z5 z6 z7 z8 hm U lo TD hc hx h0 rN rS rP rU) _ _ _ _ _ _ _ _ (by k_asm) (by k_asm) (by k_asm) (by k_asm) (by k_asm) (by rfl) (by first | exact room1 (by with_reducible assumption) (by decide) | ktr_room) (by first | exact units1 (by with_reducible assumption) (by decide) | ktr_units) (by k_mem) (by k_updF) (by with_reducible assumption) (by with_reducible assumption) (by with_reducible assumption) (by exact text_len _) (by exact line_bnd _) ?_ ?_ ?_ ?_; (focus (intro hi' hs' _ t' h' tk' F' N'; (try k_fold))); rotate_left; (focus (intro hi' _ _ t' _ h' tk' F' N' _; (try dsimp only at N'); (try k_fold))); rotate_left; (focus (intro _ _ _ _ _ _ _ N' _; (try dsimp only at N'); (try k_fold))); rotate_left; (focus (intro _ _ _ _ _ _; (try k_fold))); rotate_left)))))
      | (first | (with_reducible ((k_here; (with_reducible show wpAny _ _ (eval (Expr.Call (Expr.Name _ _) _ [] _) _) _ _ _); k_dflt (refine Call_ ?_)))) | ((k_here; (with_reducible show wpAny _ _ (eval (Expr.Call (Expr.Name _ _) _ [] _) _) _ _ _); k_dflt (refine Call_ ?_))))
      | ((with_reducible show wpAny _ _ (storeName _ _ _) _ _ _); first | (with_reducible ((k_here; k_dflt (refine' (fun a b F N c U d z1 => storeX_C F N c U d z1 a b) (by rfl) (by rfl) (by k_asm) (by k_asm) (by rfl) (by k_updF) (by k_asm) ?_; k_whole); intro _ _ _ N' _; (try dsimp only at N')))) | ((k_here; k_dflt (refine' (fun a b F N c U d z1 => storeX_C F N c U d z1 a b) (by rfl) (by rfl) (by k_asm) (by k_asm) (by rfl) (by k_updF) (by k_asm) ?_; k_whole); intro _ _ _ N' _; (try dsimp only at N'))))
      | ((with_reducible show wpAny _ _ (storeName _ _ _) _ _ _); k_here; k_dflt (first | (refine' storeAI s (by rfl) (by rfl) (by k_asm) (by k_asm) rfl rfl rfl ?_; k_whole; intro _ _ _ _ _) | (refine' storeAS s (by rfl) (by rfl) (by k_asm) (by k_asm) rfl rfl rfl ?_; k_whole; intro _ _ _ _ _) | (refine' storeA s (by rfl) (by rfl) (by k_asm) (by k_asm) rfl rfl rfl ?_; k_whole; intro _ _ _ _)); (try k_sweep))
      | ((with_reducible show wpAny _ _ (exec _ _) _ _ _); k_here; k_dflt (refine' anchorE s (by k_asm) rfl rfl rfl rfl ?_; k_whole; intro _); (try k_fold); walk1)
      | ((with_reducible show wpAny _ _ (exec _ _) _ _ _); k_here; k_fold; walk1)
      | walk1
      | (dsimp only; walk1)
      | (leave1; walk_say "STEP leave1"; try dsimp only)
      | fail "no step")
    refine eq_dataH (by ke_read) (by ke_read) (dir_sh n) (dir_sh n) (by ke_room) ?_
    ke_norm
    repeat' (first
      | (k_unfold; (try dsimp only))
      | (k_end; wrow_close)
      | ((with_reducible show LeaveT _ _ _ _ _ _ _ _ _ _ _); first | (with_reducible ((k_dflt (refine' (fun F N T z1 => leaveT_ T F N z1) (by k_asm) (by k_asm) (by with_reducible assumption) ?_; k_whole); intro _ _ _ _ _ _))) | ((k_dflt (refine' (fun F N T z1 => leaveT_ T F N z1) (by k_asm) (by k_asm) (by with_reducible assumption) ?_; k_whole); intro _ _ _ _ _ _)))
      | ((with_reducible show wpAny _ _ (eval (Expr.Lambda _ _ _ _) _) _ _ _); first | (with_reducible ((k_here; k_dflt (refine' lamE (by k_asm) (by k_asm) (by k_asm) (by with_reducible assumption) (by k_updF) (by with_reducible assumption) (by intro _ hq; repeat (first | exact hq | apply List.mem_cons_of_mem)) (by exact rfl) (by exact rfl) ?_); intro _ _ _ _ _ _ _ _ _ _ N' _ _ _ _ l1' _; (have z2' := lt_hd l1'); (try dsimp only at N')))) | ((k_here; k_dflt (refine' lamE (by k_asm) (by k_asm) (by k_asm) (by with_reducible assumption) (by k_updF) (by with_reducible assumption) (by intro _ hq; repeat (first | exact hq | apply List.mem_cons_of_mem)) (by exact rfl) (by exact rfl) ?_); intro _ _ _ _ _ _ _ _ _ _ N' _ _ _ _ l1' _; (have z2' := lt_hd l1'); (try dsimp only at N'))))
      | ((with_reducible show wpAny _ _ (call (Value.ref _) _) _ _ _); first | (with_reducible ((k_here; k_dflt (first | ((with_reducible show wpAny _ _ (call (Value.ref 145) _) _ _ _); refine heardHere ?_) | (refine' (fun z1 z2 B F X N T k d u h rr r3 => law_typed_spec B F X N T k d u z1 z2 h r3 rr) _ _ (by k_asm) (by k_asm) (by k_asm) (by k_asm) (by k_asm) (by rfl) (by first | exact room1 (by with_reducible assumption) (by decide) | ktr_room) (by first | exact units1 (by with_reducible assumption) (by decide) | ktr_units) (by with_reducible assumption) ?_ ?_; (focus (intro _ _ _ _ _ h' tk' F' N' l1'; (have z1' := lt_hd l1'); (try k_fold))); rotate_left; (focus (intro _ _ _ _ _ _ _ _ l1'; (have z1' := lt_hd l1'); (try k_fold))); rotate_left) | (refine' (fun z1 z2 z3 z4 z5 z6 z7 z8 B F X N T k d u hm U lo TD hc hx h0 rU rP rS rN => law_put_spec B F X N T k d u z1 z2 z3 z4 z5 z6 z7 z8 hm U lo TD hc hx h0 rN rS rP rU) _ _ _ _ _ _ _ _ (by k_asm) (by k_asm) (by k_asm) (by k_asm) (by k_asm) (by rfl) (by first | exact room1 (by with_reducible assumption) (by decide) | ktr_room) (by first | exact units1 (by with_reducible assumption) (by decide) | ktr_units) (by k_mem) (by k_updF) (by with_reducible assumption) (by with_reducible assumption) (by with_reducible assumption) (by exact text_len _) (by exact line_bnd _) ?_ ?_ ?_ ?_; (focus (intro hi' hs' _ t' h' tk' F' N'; (try k_fold))); rotate_left; (focus (intro hi' _ _ t' _ h' tk' F' N' _; (try dsimp only at N'); (try k_fold))); rotate_left; (focus (intro _ _ _ _ _ _ _ N' _; (try dsimp only at N'); (try k_fold))); rotate_left; (focus (intro _ _ _ _ _ _; (try k_fold))); rotate_left))))) | ((k_here; k_dflt (first | ((with_reducible show wpAny _ _ (call (Value.ref 145) _) _ _ _); refine heardHere ?_) | (refine' (fun z1 z2 B F X N T k d u h rr r3 => law_typed_spec B F X N T k d u z1 z2 h r3 rr) _ _ (by k_asm) (by k_asm) (by k_asm) (by k_asm) (by k_asm) (by rfl) (by first | exact room1 (by with_reducible assumption) (by decide) | ktr_room) (by first | exact units1 (by with_reducible assumption) (by decide) | ktr_units) (by with_reducible assumption) ?_ ?_; (focus (intro _ _ _ _ _ h' tk' F' N' l1'; (have z1' := lt_hd l1'); (try k_fold))); rotate_left; (focus (intro _ _ _ _ _ _ _ _ l1'; (have z1' := lt_hd l1'); (try k_fold))); rotate_left) | (refine' (fun z1 z2 z3 z4 z5 z6 z7 z8 B F X N T k d u hm U lo TD hc hx h0 rU rP rS rN => law_put_spec B F X N T k d u z1 z2 z3 z4 z5 z6 z7 z8 hm U lo TD hc hx h0 rN rS rP rU) _ _ _ _ _ _ _ _ (by k_asm) (by k_asm) (by k_asm) (by k_asm) (by k_asm) (by rfl) (by first | exact room1 (by with_reducible assumption) (by decide) | ktr_room) (by first | exact units1 (by with_reducible assumption) (by decide) | ktr_units) (by k_mem) (by k_updF) (by with_reducible assumption) (by with_reducible assumption) (by with_reducible assumption) (by exact text_len _) (by exact line_bnd _) ?_ ?_ ?_ ?_; (focus (intro hi' hs' _ t' h' tk' F' N'; (try k_fold))); rotate_left; (focus (intro hi' _ _ t' _ h' tk' F' N' _; (try dsimp only at N'); (try k_fold))); rotate_left; (focus (intro _ _ _ _ _ _ _ N' _; (try dsimp only at N'); (try k_fold))); rotate_left; (focus (intro _ _ _ _ _ _; (try k_fold))); rotate_left)))))
      | (first | (with_reducible ((k_here; (with_reducible show wpAny _ _ (eval (Expr.Call (Expr.Name _ _) _ [] _) _) _ _ _); k_dflt (refine Call_ ?_)))) | ((k_here; (with_reducible show wpAny _ _ (eval (Expr.Call (Expr.Name _ _) _ [] _) _) _ _ _); k_dflt (refine Call_ ?_))))
      | ((with_reducible show wpAny _ _ (storeName _ _ _) _ _ _); first | (with_reducible ((k_here; k_dflt (refine' (fun a b F N c U d z1 => storeX_C F N c U d z1 a b) (by rfl) (by rfl) (by k_asm) (by k_asm) (by rfl) (by k_updF) (by k_asm) ?_; k_whole); intro _ _ _ N' _; (try dsimp only at N')))) | ((k_here; k_dflt (refine' (fun a b F N c U d z1 => storeX_C F N c U d z1 a b) (by rfl) (by rfl) (by k_asm) (by k_asm) (by rfl) (by k_updF) (by k_asm) ?_; k_whole); intro _ _ _ N' _; (try dsimp only at N'))))
      | ((with_reducible show wpAny _ _ (storeName _ _ _) _ _ _); k_here; k_dflt (first | (refine' storeAI s (by rfl) (by rfl) (by k_asm) (by k_asm) rfl rfl rfl ?_; k_whole; intro _ _ _ _ _) | (refine' storeAS s (by rfl) (by rfl) (by k_asm) (by k_asm) rfl rfl rfl ?_; k_whole; intro _ _ _ _ _) | (refine' storeA s (by rfl) (by rfl) (by k_asm) (by k_asm) rfl rfl rfl ?_; k_whole; intro _ _ _ _)); (try k_sweep))
      | ((with_reducible show wpAny _ _ (exec _ _) _ _ _); k_here; k_dflt (refine' anchorE s (by k_asm) rfl rfl rfl rfl ?_; k_whole; intro _); (try k_fold); walk1)
      | ((with_reducible show wpAny _ _ (exec _ _) _ _ _); k_here; k_fold; walk1)
      | walk1
      | (dsimp only; walk1)
      | (leave1; walk_say "STEP leave1"; try dsimp only)
      | fail "no step")

    rename_i zT zB zD zF zN
    exact ret _ o ob _ qs (_ :: rest) c _ _ zT zB zD zF (zN.perm (List.forall_mem_cons.mpr ⟨by k_mem, List.forall_mem_cons.mpr ⟨by k_mem, List.forall_mem_cons.mpr ⟨by k_mem, List.forall_mem_cons.mpr ⟨by k_mem, List.forall_mem_cons.mpr ⟨by k_mem, fun q hq => by repeat (first | exact hq | apply List.mem_cons_of_mem)⟩⟩⟩⟩⟩)) ⟨td, tb, lod, lob, db, d1, d2, b1, b2, List.forall_mem_cons.mpr ⟨n1, rd⟩, List.forall_mem_cons.mpr ⟨n2, rb⟩, List.forall_mem_cons.mpr ⟨n3, r1⟩, List.forall_mem_cons.mpr ⟨n4, r2⟩, tg', tq.sub (fun q hq => .tail _ hq)⟩ I (fun q hq => .tail _ hq)
end
end Mine
end

/-! part P22 -/
section
open PySem PySem.W PyProof.Rows PyProof.V
open PySem.Spec PySem.Calls
set_option maxRecDepth 100000
set_option linter.unusedVariables false
namespace Mine
theorem fresh_P22 : True := by
  w_top off
  trivial
abbrev scLD : Scope := { kind := ScopeKind.function, names := [(Str.ofString "first", NameKind.free), (Str.ofString "last", NameKind.free), (Str.ofString "program", NameKind.free), (Str.ofString "delete_lines", NameKind.globalImplicit)], isGenerator := false, isCoroutine := false }
abbrev lamBodyD (p1 p2 p3 p4 p5 : Pos) : PySem.Expr := .Call (.Name (Str.ofString "delete_lines") p1) [.Name (Str.ofString "program") p2, .Name (Str.ofString "first") p3, .Name (Str.ofString "last") p4] [] p5
section
variable {w : World} {p : Program} {loose : List Str} {mean : ExcName → Option Value} {mg mb : Str → Option Value} {dp un : Nat} {gd : Option (List Code)} {cn : Str} {cs : Scope} {a : Addr} {ccd : Value} {cl : List (Str × Addr)} {outer : List Env} {A₀ : Around} {base h₀ : Heap} {L : Addr} {m : Str → Option Value} {news : List (Addr × Obj)} {s : Shared}
    {Q E : Value → Shared → Prop}
local macro_rules | `(tactic| k_mem) => `(tactic| first | (with_reducible assumption) | exact List.mem_cons_self | (refine List.mem_cons_of_mem _ ?_; k_mem))
set_option maxHeartbeats 8000000 in
theorem thunkD_spec (B : Below A₀ base outer h₀) (F : Fr h₀ L s.heap m) (X : (hd.heap_39 w.params).In h₀) (N : News h₀ L s.heap news) (T : Top p loose mean mg mb h₀) (hk : cs.kind = .function) (hd : dp + 60 < recursionLimit) (hu : un + 600 < cLine)
   (f cp c1 c2 c' : Addr) (op o1 o2 oc : Obj) (clos : List (Str × Addr)) (pm ctv : Value) (p1 p2 p3 p4 p5 : Pos) (vs : Array Value) (tq : Tok)
   (hf0 : (f, kla_obj (Str.ofString "<lambda>") qualD par0 (lamBodyD p1 p2 p3 p4 p5) scLD clos pm c' ctv) ∈ news) (hoc : (c', oc) ∈ news) (hoc1 : oc.data = .fields vs) (hoc2 : vs[1]? = some (.str qualD tq))
   (hc1 : clos.lookup (Str.ofString "program") = some cp) (hc2 : clos.lookup (Str.ofString "first") = some c1) (hc3 : clos.lookup (Str.ofString "last") = some c2) (hp1 : (cp, op) ∈ news)
   (d : Addr) (hp2 : op.data = .cell (some (.ref d))) (i j : Int) (ti tj : Tok) (ht1 : (c1, o1) ∈ news) (ht2 : o1.data = .cell (some (.int i ti))) (ht3 : (c2, o2) ∈ news) (ht4 : o2.data = .cell (some (.int j tj)))
   (o : Obj) (c : Bk) (u : Obj → List (Addr × Obj)) (hm : (d, o) ∈ news) (U : UpdF d o news u) (lo : (d == sysModules) = false) (TD : TDict PR w o c) (hc : c.length < 64) (hN : kNodup c)
   (ret : within c i j ≠ [] → ∀ o' h' tk', Fr h₀ L h' m → News h₀ L h' (u o') → TDict PR w o' (sDelAll c (within c i j)) → Q .none { s with heap := h', toks := tk' })
   (err : within c i j = [] → RaiseTo base h₀ L m (envX cn cs L a ccd cl :: outer) news "FC" E s) :
   wpAny (model PySem.Challenge.rw_pc0001_01.row.prog w) (ktrTop dp un gd cn cs L a ccd cl outer) (call (.ref f) []) Q E s := by
  revert X; k_fill; intro X
  refine wpAny_call ?_
  refine' kla_code ?k1 ?k2 ?k3 ?k4 ?k5 ?kA ?kF ?kK ?k6 ?k7 ?k8 ?k9 ?kB ?_ ?c2 ?c3 ?c4 ?c5
  case kA => exact rfl
  case kF => exact rfl
  case kK => assumption
  case k1 => k_asm
  case k2 => k_asm
  case k3 => k_asm
  case k4 => k_asm
  case k5 => k_asm
  case k6 => exact hf0
  case k7 => exact codeRec_news N hoc hoc1 hoc2
  case k8 => ktr_room
  case k9 => exact rfl
  case c5 => decide
  case kB => exact locs rfl
  case c2 => exact rfl
  case c3 => exact rfl
  case c4 => exact rfl
  k_whole
  intro g' L' h' FG' F' N' B' X' T'
  (try dsimp only)
  (try k_fold)
  k_with_none
  repeat' (first
    | (k_unfold; (try dsimp only))
    | (k_end; wrow_close)
    | ((with_reducible show wpAny _ _ (call (Value.ref _) _) _ _ _); first | (with_reducible ((k_here; k_dflt ((refine' (fun z1 z2 z3 z4 z5 z6 z7 z8 B F X N T k d u hm U lo TD hc hN er r => delete_lines_spec B F X N T k d u z1 z2 z3 z4 z5 z6 z7 z8 hm U lo TD hc hN r er) _ _ _ _ _ _ _ _ (by k_asm) (by k_asm) (by k_asm) (by k_asm) (by k_asm) (by rfl) (by first | exact room1 (by with_reducible assumption) (by decide) | ktr_room) (by first | exact units1 (by with_reducible assumption) (by decide) | ktr_units) (by with_reducible assumption) (by with_reducible assumption) (by with_reducible assumption) (by with_reducible assumption) (by with_reducible assumption) (by with_reducible assumption) ?_ ?_; (focus (intro a1' _ _ _ _ h' tk' _ _ _ _; (try dsimp only))); rotate_left; (focus (intro _ _ _ _ _ _ _)); rotate_left; (all_goals (try k_fold))))))) | ((k_here; k_dflt ((refine' (fun z1 z2 z3 z4 z5 z6 z7 z8 B F X N T k d u hm U lo TD hc hN er r => delete_lines_spec B F X N T k d u z1 z2 z3 z4 z5 z6 z7 z8 hm U lo TD hc hN r er) _ _ _ _ _ _ _ _ (by k_asm) (by k_asm) (by k_asm) (by k_asm) (by k_asm) (by rfl) (by first | exact room1 (by with_reducible assumption) (by decide) | ktr_room) (by first | exact units1 (by with_reducible assumption) (by decide) | ktr_units) (by with_reducible assumption) (by with_reducible assumption) (by with_reducible assumption) (by with_reducible assumption) (by with_reducible assumption) (by with_reducible assumption) ?_ ?_; (focus (intro a1' _ _ _ _ h' tk' _ _ _ _; (try dsimp only))); rotate_left; (focus (intro _ _ _ _ _ _ _)); rotate_left; (all_goals (try k_fold)))))))
    | ((with_reducible show wpAny _ _ (leaving _ _) _ _ _); first | (with_reducible ((k_here; k_dflt ((refine' (fun K R F u z1 => leave_onD K F R u z1) (by k_asm) (by with_reducible assumption) (by with_reducible assumption) (by with_reducible assumption) ?_; intro _ _ _))))) | ((k_here; k_dflt ((refine' (fun K R F u z1 => leave_onD K F R u z1) (by k_asm) (by with_reducible assumption) (by with_reducible assumption) (by with_reducible assumption) ?_; intro _ _ _)))))
    | ((with_reducible show wpAny _ _ (eval (Expr.Name _ _) _) _ _ _); first | (with_reducible ((k_here; k_dflt (refine' (fun a b e f N c m d z1 => nameX_F N c m d z1 a b e f) (by rfl) (by rfl) (by decide) (by decide) (by k_asm) (by with_reducible assumption) (by with_reducible assumption) (by with_reducible assumption) ?_)))) | ((k_here; k_dflt (refine' (fun a b e f N c m d z1 => nameX_F N c m d z1 a b e f) (by rfl) (by rfl) (by decide) (by decide) (by k_asm) (by with_reducible assumption) (by with_reducible assumption) (by with_reducible assumption) ?_))))
    | (first | (with_reducible ((k_here; (with_reducible show wpAny _ _ (eval (Expr.Call (Expr.Name _ _) _ [] _) _) _ _ _); k_dflt (refine Call_ ?_)))) | ((k_here; (with_reducible show wpAny _ _ (eval (Expr.Call (Expr.Name _ _) _ [] _) _) _ _ _); k_dflt (refine Call_ ?_))))
    | ((with_reducible show wpAny _ _ (exec _ _) _ _ _); k_here; k_fold; walk1)
    | walk1
    | (dsimp only; walk1)
    | (leave1; walk_say "STEP leave1"; try dsimp only)
    | fail "no step")
  · exact err (by with_reducible assumption) _ _ _ _ _ _ (by with_reducible assumption) (by with_reducible assumption) (by with_reducible assumption) (by with_reducible assumption)
  · exact ret (by with_reducible assumption) _ _ _ (by assumption) (by assumption) (by with_reducible assumption)
set_option maxHeartbeats 8000000 in
theorem heardD (B : Below A₀ base outer h₀) (F : Fr h₀ L s.heap m) (X : (Mine.hd.heap_39 w.params).In h₀) (N : News h₀ L s.heap news) (T : Top p loose mean mg mb h₀) (XB : (Mine.hd.heap_39 w.params).In base) (TB : Top p loose mean mg mb base) (Dk : KtsDicts (frs outer) h₀) (hk : cs.kind = .function) (hd : dp + 90 < recursionLimit) (hu : un + 900 < cLine)
   (f cp c1 c2 c' : Addr) (op o1 o2 oc : Obj) (clos : List (Str × Addr)) (pm ctv : Value) (p1 p2 p3 p4 p5 : Pos) (vs : Array Value) (tq : Tok)
   (hf0 : (f, kla_obj (Str.ofString "<lambda>") qualD par0 (lamBodyD p1 p2 p3 p4 p5) scLD clos pm c' ctv) ∈ news) (hoc : (c', oc) ∈ news) (hoc1 : oc.data = .fields vs) (hoc2 : vs[1]? = some (.str qualD tq))
   (hc1 : clos.lookup (Str.ofString "program") = some cp) (hc2 : clos.lookup (Str.ofString "first") = some c1) (hc3 : clos.lookup (Str.ofString "last") = some c2) (hp1 : (cp, op) ∈ news)
   (d : Addr) (hp2 : op.data = .cell (some (.ref d))) (i j : Int) (ti tj : Tok) (ht1 : (c1, o1) ∈ news) (ht2 : o1.data = .cell (some (.int i ti))) (ht3 : (c2, o2) ∈ news) (ht4 : o2.data = .cell (some (.int j tj)))
   (o : Obj) (c : Bk) (u : Obj → List (Addr × Obj)) (hm : (d, o) ∈ news) (U : UpdF d o news u) (lo : (d == sysModules) = false) (TD : TDict PR w o c) (hc : c.length < 64) (hN : kNodup c)
   (ret : within c i j ≠ [] → ∀ o' h₀' D t h' tk', TDict PR w o' (sDelAll c (within c i j)) → KtsTurn (frs outer) h₀ h₀' → Below A₀ base outer h₀' → KtsDicts (frs outer) h₀' → Fr h₀' L h' m → News h₀' L h' ((D, tupObj [.str (Str.ofString "value") t, .none]) :: u o') → Q (.ref D) { s with heap := h', toks := tk' })
   (err : within c i j = [] → ∀ h₀' D t tc h' tk', KtsTurn (frs outer) h₀ h₀' → Below A₀ base outer h₀' → KtsDicts (frs outer) h₀' → Fr h₀' L h' m → News h₀' L h' ((D, tupObj [.str (Str.ofString "refused") t, .str (Str.ofString "FC") tc]) :: news) → Q (.ref D) { s with heap := h', toks := tk' }) :
   wpAny (model PySem.Challenge.rw_pc0001_01.row.prog w) (ktrTop dp un gd cn cs L a ccd cl outer) (call (.ref 145) [.ref f]) Q E s := by
  refine heard_spec
    (fun v nw => within c i j ≠ [] ∧ v = .none ∧ ∃ o', nw = u o' ∧ TDict PR w o' (sDelAll c (within c i j)))
    (fun code nw => within c i j = [] ∧ code = Str.ofString "FC" ∧ nw = news)
    B F X T XB TB Dk hk (by omega) (by omega) f N _ _ hf0 rfl ?_ ?_ ?_
  · intro g L' h₁ tk mH Q' E' FG FH NH BH XH TH okv oke
    refine' thunkD_spec BH FH XH NH TH ?k ?d ?u f cp c1 c2 c' op o1 o2 oc clos pm ctv p1 p2 p3 p4 p5 vs tq hf0 hoc hoc1 hoc2 hc1 hc2 hc3 hp1 d hp2 i j ti tj ht1 ht2 ht3 ht4 o c u hm U lo TD hc hN ?r ?er
    case k => rfl
    case d => ktr_room
    case u => ktr_units
    case r => exact fun e1 o' h' tk' F' N' T' => okv _ _ _ _ ⟨e1, rfl, _, rfl, T'⟩ F' N'
    case er => exact fun e1 => oke _ _ ⟨e1, rfl, rfl⟩
  · rintro v nw ⟨e1, rfl, o', rfl, T'⟩ h₀' D t h' tk' z1 z2 z3 z4 z5
    exact ret e1 _ _ _ _ _ _ T' z1 z2 z3 z4 z5
  · rintro code nw ⟨e1, rfl, rfl⟩ h₀' D t tc h' tk' z1 z2 z3 z4 z5
    exact err e1 _ _ _ _ _ _ z1 z2 z3 z4 z5
end
end Mine
end

/-! part P23a -/
section
open PySem PySem.W PyProof.Rows PyProof.V
open PySem.Spec PySem.Calls
set_option maxRecDepth 100000
set_option linter.unusedVariables false
namespace Mine
def IntAt (c : Bk) (i : Nat) (v : Value) : Prop := ∃ k t, (c.map (·.1))[i]? = some k ∧ v = .int k t
section
variable {prog : Program} {w : World} {A : Around} {E : Value → Shared → Prop} {h₀ : Heap} {L : Addr} {m : Str → Option Value} {env : Env} {ct elt : PySem.Expr} {x : Str} {scope : Scope} {cl : List (Str × Addr)} {s : Shared} {S : List (Addr × Obj) → Prop} {news : List (Addr × Obj)}
/-- the comprehension's source is a dict of the ledger -/
def DictSrc (prog : Program) (w : World) (A : Around) (h₀ : Heap) (L : Addr) (m : Str → Option Value) (env : Env) (ct elt : PySem.Expr) (x : Str) (scope : Scope) (cl : List (Str × Addr)) (Fin : Shared → List Value → List (Addr × Obj) → Prop) (xv : Value) (s₁ : Shared) : Prop :=
  ∃ d o c news, xv = .ref d ∧ (d == sysModules) = false ∧ A.handled = none ∧ Fr h₀ L s₁.heap m ∧ News h₀ L s₁.heap news ∧ (d, o) ∈ news ∧ TDict prog w o c ∧ c.length ≤ sizeLine ∧
    ∀ g, LCt.CompRestT prog w A h₀ L m env ct elt x scope cl { s₁ with heap := g } (fun nw => (d, o) ∈ nw) (IntAt c) (Fin { s₁ with heap := g }) c.length 0 [] news
theorem DictSrc.mk {Fin : Shared → List Value → List (Addr × Obj) → Prop} {d : Addr} {o : Obj} {c : Bk} (lo : (d == sysModules) = false) (hh : A.handled = none) (F : Fr h₀ L s.heap m) (N : News h₀ L s.heap news) (hm : (d, o) ∈ news) (T : TDict prog w o c) (hc : c.length ≤ sizeLine)
    (h : ∀ g, LCt.CompRestT prog w A h₀ L m env ct elt x scope cl { s with heap := g } (fun nw => (d, o) ∈ nw) (IntAt c) (Fin { s with heap := g }) c.length 0 [] news) : DictSrc prog w A h₀ L m env ct elt x scope cl Fin (.ref d) s :=
  ⟨d, o, c, news, rfl, lo, hh, F, N, hm, T, hc, h⟩
theorem assign_comp_dict {iter : PySem.Expr} {y : Str} {px py pos spos : Pos} {Q : Flow → Shared → Prop} (F₀ : Fr h₀ env.locals s.heap m)
    (hsw : swapsWith (.ListComp elt [⟨.Name x px, iter, [ct], 0⟩] scope pos) (some (.Name y py)) spos.line env = pure true)
    (hclos : closureFor scope env = pure cl) (hcell : ∀ z ∈ scope.names, z.2 ≠ .cell) (hkind : scope.kind = .function)
    (hnames : ∀ z ∈ scope.names, z.2 = .local → scope.names.lookup z.1 = some .local) (hx : scope.names.lookup x = some .local)
    (hy : env.kindOf y = some .local) (hp : (env.scope.kind == .class || (env.scope.kind == .module && env.locals != env.globals)) = false)
    (h : wpAny (model prog w) A (eval iter env) (DictSrc prog w A h₀ env.locals m env ct elt x scope cl (fun s₂ => LCg.FinA h₀ env.locals m s₂ y Q)) E s)
    (hs : ∀ x, foldedSetIterable iter env x = pure x := by intro _; rfl) :
    wpAny (model prog w) A (exec (.Assign [.Name y py] (.ListComp elt [⟨.Name x px, iter, [ct], 0⟩] scope pos) spos) env) Q E s := by
  rw [exec_Assign_Name_used _ _ _ _ hsw]
  refine wpAny_bind (wpAny_standAt (wpAny_bind ?_))
  show wpAny _ A (do let _ ← comprehension (.ListComp elt [⟨.Name x px, iter, [ct], 0⟩] scope pos) scope env _ (newList []) false (eval iter env) (some (assign (.Name y py) env))) _ _ s
  refine wpAny_bind (wpAny_mono (wpAny_comprehension_free (use := some (assign (.Name y py) env)) (Q := fun _ s' => Q .next s') rfl hs hclos hkind hnames
    (wpAny_mono h (fun xv s₁ h₁ => ?_) fun _ _ e => e)) (fun _ s' hq => wpAny_pure (wpAny_pure hq)) fun _ _ e => e)
  obtain ⟨d, o, c, news, rfl, lo, hh, F, N, hm, ⟨kvs, hd, hf⟩, hsz, R⟩ := h₁
  obtain ⟨ep, hat⟩ := KdkAt.of hd
  have hD := hat.dictAt (N _ hm).1
  have hl : c.length = kvs.length := (sD_length c).symm.trans hf.length
  rw [hl] at R hsz
  refine wpAny_pyIter_dict lo hD ?_
  have up : ∀ b o', s₁.heap.get? b = some o' → (s₁.heap.push { cls := .type "dict_keyiterator", data := .fields #[.ref d, .int 0 0, .int kvs.length 0, .int ep 0] }).get? b = some o' := fun b o' e => Heap.get?_push_of_some _ e
  have hne : d ≠ s₁.heap.objs.size := Nat.ne_of_lt hD.lt_size
  refine LCt.block_T ((Walks.dictKeys hh s₁.heap.objs.size d hne kvs ep).weaken (P' := IntAt c) ?_) hsz (fun i h st => by obtain ⟨q, e, _⟩ := st.1; exact ⟨q, e⟩) ?_ hcell hkind hx ⟨⟨_, Heap.get?_push_size _ rfl, rfl, rfl⟩, hD.push _⟩ (fun b hb => ?_)
      (F.keeps up) (N.grown up) (Nat.ne_of_lt F.ns.lt) (next_is_new F) (fun p hp => Nat.ne_of_lt (Heap.lt_size (N p hp).1)) hm (R _) ?_
  · rintro i v ⟨k, xv, hkv, hk⟩
    obtain ⟨dv, hdv, _⟩ := hf.at hkv
    obtain ⟨t, rfl⟩ := PyProof.V.Flat.int_inv (kdl_flat_int (k := k) hk)
    refine ⟨k, t, ?_, rfl⟩
    unfold sD at hdv
    rw [List.getElem?_map] at hdv ⊢
    cases e : c[i]? with
    | none => rw [e] at hdv; cases hdv
    | some q =>
      rw [e] at hdv
      injection hdv with hdv
      injection hdv with h1 h2
      injection h1 with h1
      rw [← h1]; rfl
  · intro i h h' oI nw st e e' _ N' S'
    obtain ⟨oo, q, r⟩ := st.1
    rw [e] at q
    cases q
    exact ⟨⟨oI, e', r⟩, hat.dictAt (N' _ S').1⟩
  · show b < (s₁.heap.push _).objs.size
    rw [Heap.size_push]
    rcases List.mem_cons.mp hb with rfl | hb
    · exact Nat.lt_succ_self _
    · rw [List.mem_singleton.mp hb]; exact Nat.lt_succ_of_lt hD.lt_size
  · intro D C h' tk m' ys news' F' N' o1 hn hC₀ hD₀ hCL hDL hCD offC fin
    show wpAny _ A (assign (.Name y py) env (.ref D)) _ _ _
    refine wpAny_assign_Name (wpAny_storeName_local hy F'.ns (fun h₂ hn₂ hs₂ => ?_) hp)
    have hL₀ : h₀.get? env.locals = none := Heap.get?_none_of_le F'.above
    have F₂ : Fr h₀ env.locals h₂ (fun z => if z = y then some (.ref D) else m z) := ⟨hn₂, fun b o e => hs₂.extBut b o (fun q => by rw [q, hL₀] at e; cases e) (F'.keep b o e), F'.above⟩
    refine ⟨m', hn.sameBut hs₂ hCL, fun h'' hs'' => fin D h'' _ (F₂.change hs'' hCL hC₀) (fun p hp => ?_) o1⟩
    have z : h₂.get? p.1 = some p.2 := hs₂.extBut _ _ (N' p hp).2.1 (N' p hp).1
    refine ⟨hs''.extBut _ _ ?_ z, (N' p hp).2⟩
    rcases List.mem_cons.mp hp with rfl | hp
    · exact Ne.symm hCD
    · exact offC p hp
theorem lcd_filter {c : Bk} {Fin : List Value → List (Addr × Obj) → Prop} (p : Int → Bool)
  (turn : ∀ k t I oI C oC D m₂ ys h tk (E' : Value → Shared → Prop), k ∈ c.map (·.1) → LCg.NsObj oC m₂ → m₂ x = some (.int k t) → Fr h₀ L h m → News h₀ L h ((I, oI) :: (C, oC) :: (D, LCg.lst ys) :: news) → LCg.Off3 I C D news → ((@Ne Nat I C) ∧ (@Ne Nat I D) ∧ (@Ne Nat C D)) →
      wpAny (model prog w) A (isTrue ct (compEnvC scope cl C env) (eval ct (compEnvC scope cl C env))) (fun ok s' => if ok = true then
        wpAny (model prog w) A (eval elt (compEnvC scope cl C env)) (LCg.CompEnd h₀ L m { s with heap := h, toks := tk } I oI C oC D (LCg.lst ys) S (fun y news' => news' = news ∧ p k = true ∧ ∃ t', y = .int k t')) E' s'
        else LCg.CompEnd h₀ L m { s with heap := h, toks := tk } I oI C oC D (LCg.lst ys) S (fun _ news' => news' = news ∧ p k = false) Value.none s') E' { s with heap := h, toks := tk })
  (fin : ∀ ys, IntsAre ys ((c.map (·.1)).filter p) → Fin ys news) :
  LCt.CompRestT prog w A h₀ L m env ct elt x scope cl s S (IntAt c) Fin c.length 0 [] news := by
  have key : ∀ (j i : Nat) (ys : List Value), i + j = c.length → IntsAre ys (((c.map (·.1)).take i).filter p) → LCt.CompRestT prog w A h₀ L m env ct elt x scope cl s S (IntAt c) Fin j i ys news := by
    intro j
    induction j with
    | zero =>
      intro i ys hi hy
      have e : i = (c.map (·.1)).length := by rw [List.length_map]; omega
      subst e
      rw [List.take_length] at hy
      exact LCt.CompRestT.zero (fin ys hy)
    | succ j ih =>
      intro i ys hij hy
      refine LCt.CompRestT.succ ?_
      intro v I oI C oC D m₂ h tk E' hv hC hx F N off ne
      obtain ⟨k, t, hk, hv'⟩ := hv
      rw [hv'] at hx
      refine wpAny_mono (turn k t I oI C oC D m₂ ys h tk E' (List.mem_of_getElem? hk) hC hx F N off ne) (fun ok s₂ hq => ?_) fun _ _ e => e
      cases ok with
      | true =>
        simp only [if_true] at hq ⊢
        refine wpAny_mono hq (fun y s₂ hq => ?_) fun _ _ e => e
        obtain ⟨h', tk', nw, e, F', N', off', hS, hn, hp, t', hy'⟩ := hq
        rw [hn] at N' off' hS
        refine ⟨h', tk', news, e, F', N', off', hS, ?_⟩
        rw [hy']
        refine ih (i + 1) _ (by omega) ?_
        rw [List.take_add_one, hk, List.filter_append]
        simpa [hp] using IntsAre.append hy (.cons k t' .nil)
      | false =>
        simp only [Bool.false_eq_true, if_false] at hq ⊢
        obtain ⟨h', tk', nw, e, F', N', off', hS, hn, hp⟩ := hq
        rw [hn] at N' off' hS
        refine ⟨h', tk', news, e, F', N', off', hS, ?_⟩
        refine ih (i + 1) _ (by omega) ?_
        rw [List.take_add_one, hk, List.filter_append]
        simpa [hp] using hy
  exact key _ 0 [] (by omega) (by simp only [List.take_zero, List.filter_nil]; exact .nil)
end
/-- the keys in the dict's own order -/
def gones (c : Bk) (i j : Int) : List Int := (c.map (·.1)).filter fun k => decide (i ≤ k) && decide (k ≤ j)
theorem gones_perm (c : Bk) (i j : Int) : (gones c i j).Perm (within c i j) := ((skeys_perm c).symm.filter _)
theorem sDelAll_filter : ∀ (ns : List Int) (c : Bk), sDelAll c ns = c.filter fun p => !ns.contains p.1
  | [], c => by
    show c = _
    exact (List.filter_eq_self.mpr fun p _ => by simp).symm
  | n :: r, c => by
    show sDelAll (sDel c n) r = _
    rw [sDelAll_filter r, sDel, List.filter_filter]
    congr 1
    funext p
    simp [Bool.and_comm, eq_comm]
theorem sDelAll_perm {a b : List Int} (h : a.Perm b) (c : Bk) : sDelAll c a = sDelAll c b := by
  rw [sDelAll_filter, sDelAll_filter]
  congr 1
  funext p
  have e : a.contains p.1 = b.contains p.1 := by
    rw [Bool.eq_iff_iff]
    simp only [List.contains_iff_mem]
    exact h.mem_iff
  rw [e]
theorem gones_del (c : Bk) (i j : Int) : sDelAll c (gones c i j) = sDelAll c (within c i j) := sDelAll_perm (gones_perm c i j) c
theorem gones_nodup {c : Bk} {i j : Int} (h : kNodup c) : (gones c i j).Nodup := by
  unfold gones
  exact List.Pairwise.filter _ h
theorem gones_has {c : Bk} {i j n : Int} (h : n ∈ gones c i j) : sHas c n = true := mem_has (List.mem_filter.mp h).1
theorem gones_len {c : Bk} {i j : Int} (h : c.length < 64) : (gones c i j).length < 64 := by
  rw [(gones_perm c i j).length_eq]
  exact within_len h
theorem gones_nil {c : Bk} {i j : Int} (h : gones c i j = []) : within c i j = [] := by
  have := gones_perm c i j
  rw [h] at this
  exact List.nil_perm.mp this
theorem gones_ne {c : Bk} {i j : Int} (h : gones c i j ≠ []) : within c i j ≠ [] := fun e => h (by
  have := gones_perm c i j
  rw [e] at this
  exact List.perm_nil.mp this)
end Mine
end

/-! part P23h -/
section
open PySem PySem.W PyProof.Rows PyProof.V
open PySem.Spec PySem.Calls
set_option maxRecDepth 100000
set_option linter.unusedVariables false
namespace Mine
theorem newsSub {g h : Heap} {L : Addr} {a b : List (Addr × Obj)} (N : News g L h a) (k : ∀ q ∈ b, q ∈ a) : News g L h b := fun q hq => N q (k q hq)
theorem fdiv4_nn {n : Int} (h : 0 ≤ n) : 0 ≤ Int.fdiv n 4 := Int.fdiv_nonneg h (by decide)
theorem stride_facts (n : Int) : 0 ≤ Int.fmod n 3 * 10 ∧ Int.fmod n 3 * 10 ≤ 20 := by
  have a := fmod_lo n (n := 3) (by decide)
  have b := fmod_hi n (n := 3) (by decide)
  omega
theorem n5_facts (n : Int) : numAt (Int.fmod n 5) ∈ keys ∧ 0 ≤ numAt (Int.fmod n 5) ∧ numAt (Int.fmod n 5) ≤ 65529 := by
  have h := facts_num5 (Int.fmod n 5).toNat (toNat_lt (fmod_hi n (by decide)) (by decide))
  rw [show numAt (Int.fmod n 5) = numbers.getD (Int.fmod n 5).toNat 0 by unfold numAt; rfl]
  exact ⟨h, keys_bnd _ h⟩
theorem item_n5 {prog : Program} {w : World} {A : Around} {E : Value → Shared → Prop} {s : Shared} {h₀ : Heap} {L D : Addr} {news : List (Addr × Obj)} {vs : List Value} {nn : Nat} {n : Int} {u : Tok} {value slice : PySem.Expr} {Q : Value → Shared → Prop}
    (N : News h₀ L s.heap news) (hm : (D, listOf vs.toArray nn) ∈ news) (hi : IntsAre vs numbers) (h : ∀ t, numAt (Int.fmod n 5) ∈ keys → 0 ≤ numAt (Int.fmod n 5) → numAt (Int.fmod n 5) ≤ 65529 → Q (.int (numAt (Int.fmod n 5)) t) s)
    (hs : subscripted slice false (.ref D) (.int (Int.fmod n 5) u) = operate [.ref D, .int (Int.fmod n 5) u] (getItem (.ref D) (.int (Int.fmod n 5) u))) (hg : ∀ r, letTemporaryGo value (.ref D) r = pure ()) :
    wpAny (model prog w) A (subscriptTail value slice (.ref D) (.int (Int.fmod n 5) u)) Q E s := by
  obtain ⟨a, b, c⟩ := n5_facts n
  have := fmod_hi n (n := 5) (by decide)
  exact item_nums N hm hi (fmod_lo _ (by decide)) (by omega) (fun t _ _ => h t a b c) hs hg
end Mine
end

/-! part P23A -/
section
open PySem PySem.W PyProof.Rows PyProof.V
open PySem.Spec PySem.Calls
set_option maxRecDepth 100000
set_option linter.unusedVariables false
namespace Mine
theorem fresh_P23A : True := by
  w_top off
  trivial
section
variable {w : World} {p : Program} {loose : List Str} {mean : ExcName → Option Value} {mg mb : Str → Option Value} {dp un : Nat} {gd : Option (List Code)} {cn : Str} {cs : Scope} {a : Addr} {ccd : Value} {cl : List (Str × Addr)} {outer : List Env} {A₀ : Around} {base h₀ : Heap} {L : Addr} {m : Str → Option Value} {news : List (Addr × Obj)} {s : Shared}
    {Q E : Value → Shared → Prop}
local macro_rules | `(tactic| k_mem) => `(tactic| first | (with_reducible assumption) | exact List.mem_cons_self | (refine List.mem_cons_of_mem _ ?_; k_mem))
local macro_rules | `(tactic| k_all) => `(tactic| first | (with_reducible assumption) | exact List.forall_mem_nil _ | (refine List.forall_mem_cons.mpr ⟨?_, ?_⟩; (focus k_ne); k_all))
set_option maxHeartbeats 8000000 in
theorem law_deedA (B : Below A₀ base outer h₀) (F : Fr h₀ L s.heap m) (X : (hd.heap_39 w.params).In h₀) (T : Top p loose mean mg mb h₀) (XB : (hd.heap_39 w.params).In base) (TB : Top p loose mean mg mb base) (D : KtsDicts (frs outer) h₀) (hk : cs.kind = .function) (hd : dp + 120 < recursionLimit) (hu : un + 1200 < cLine)
   (d : Addr) (o : Obj) (b : Addr) (ob : Obj) (ps qs : Array Value) (rest : List (Addr × Obj)) (c : Bk) (N : News h₀ L s.heap (ledOf d o b ob ps qs rest)) (K : LedOk w d o b ob ps qs rest c) (I : Inv c) (n : Int) (tn : Tok) (h0 : 0 ≤ n) (hform : Int.fmod n 4 < 2)
   (ret : ∀ h₀' o' ob' ps' qs' rest' c' h' tk', KtsTurn (frs outer) h₀ h₀' → Below A₀ base outer h₀' → KtsDicts (frs outer) h₀' → Fr h₀' L h' m → News h₀' L h' (ledOf d o' b ob' ps' qs' rest') → LedOk w d o' b ob' ps' qs' rest' c' → Inv c' → (∀ q ∈ rest, q ∈ rest') → Q (.bool true) { s with heap := h', toks := tk' }) :
   wpAny (model PySem.Challenge.rw_pc0001_01.row.prog w) (ktrTop dp un gd cn cs L a ccd cl outer) (call (.ref 171) [.ref d, .ref b, .int n tn]) Q E s := by
  revert X; k_fill; intro X
  refine wpAny_call ?_
  k_dflt (refine' code_defT ?k1 ?k2 ?k3 ?k4 ?k5 ?kd ?kA ?kF ?kK ?k6 ?k7 ?k8 ?k9 ?kB ?kD ?_ ?c2 ?c3 ?c4; (case kA => exact rfl); (case kF => exact rfl); (case kK => assumption); (case k1 => k_asm); (case k2 => k_asm); (case k3 => k_asm); (case k4 => k_asm); (case k5 => k_asm); (case kd => assumption); (case k6 => k_is); (case k7 => k_is); (case k8 => ktr_room); (case k9 => exact BindsTo.of_eq rfl); (case kB => exact rfl); (case kD => decide +kernel); (case c2 => exact rfl); (case c3 => exact rfl); (case c4 => exact rfl); k_whole; intro g' L' h' tk' cells' FG' F' N' Y' B' X' T' D' T0' l1; k_cells Y'; (try simp only [List.cons_append, List.nil_append] at N'); (try dsimp only); (try k_fold))
  have C1 := chd170 X'
  have K0 := K
  obtain ⟨td, tb, lod, lob, db, d1, d2, b1, b2, rd, rb, r1, r2, te, tq⟩ := K
  have hc := (inv_ok I).len
  have hcn := I.nod
  replace db := neN db
  replace d1 := neN d1
  replace d2 := neN d2
  replace b1 := neN b1
  replace b2 := neN b2
  have hdL := lt_hd l1
  have hbL := lt_hd (lt_tl l1)
  have h1L := lt_hd (lt_tl (lt_tl l1))
  have h2L := lt_hd (lt_tl (lt_tl (lt_tl l1)))
  have hrL := lt_tl (lt_tl (lt_tl (lt_tl l1)))
  have hr0 : ∀ q ∈ rest, q.1 ≠ L' := ne_up 0 hrL
  have hr1 : ∀ q ∈ rest, q.1 ≠ L' + 1 := ne_up 1 hrL
  have hr2 : ∀ q ∈ rest, q.1 ≠ L' + 1 + 1 := ne_up 2 hrL
  have hr3 : ∀ q ∈ rest, q.1 ≠ L' + 1 + 1 + 1 := ne_up 3 hrL
  have hq0 := fdiv4_nn h0
  have hfA : decide (Int.fmod n 4 < 2) = true := decide_eq_true hform
  k_with_none
  repeat' (first
    | (k_unfold; (try dsimp only))
    | (k_end; wrow_close)
    | ((with_reducible show LeaveT _ _ _ _ _ _ _ _ _ _ _); first | (with_reducible ((k_dflt (refine' (fun F N T z1 => leaveT_ T F N z1) (by k_asm) (by k_asm) (by with_reducible assumption) ?_; k_whole); intro _ _ _ _ _ _))) | ((k_dflt (refine' (fun F N T z1 => leaveT_ T F N z1) (by k_asm) (by k_asm) (by with_reducible assumption) ?_; k_whole); intro _ _ _ _ _ _)))
    | ((with_reducible show wpAny _ _ (call (Value.ref _) _) _ _ _); first | (with_reducible ((k_here; k_dflt (first | ((with_reducible show wpAny _ _ (call (Value.ref 166) _) _ _ _); refine heardHere ?_))))) | ((k_here; k_dflt (first | ((with_reducible show wpAny _ _ (call (Value.ref 166) _) _ _ _); refine heardHere ?_)))))
    | (first | (with_reducible ((k_here; (with_reducible show wpAny _ _ (eval (Expr.Call (Expr.Name _ _) _ [] _) _) _ _ _); k_dflt (refine Call_ ?_)))) | ((k_here; (with_reducible show wpAny _ _ (eval (Expr.Call (Expr.Name _ _) _ [] _) _) _ _ _); k_dflt (refine Call_ ?_))))
    | ((with_reducible show wpAny _ _ (callWith _ (Value.ref _) _ _ _) _ _ _); first | (with_reducible ((k_here; k_dflt (refine' callWith_K (by k_asm) (by k_is) ?_; k_whole)))) | ((k_here; k_dflt (refine' callWith_K (by k_asm) (by k_is) ?_; k_whole))))
    | ((with_reducible show wpAny _ _ (storeName _ _ _) _ _ _); first | (with_reducible ((k_here; k_dflt (refine' (fun a b F N c U d z1 => storeX_C F N c U d z1 a b) (by rfl) (by rfl) (by k_asm) (by k_asm) (by rfl) (by k_updF) (by k_asm) ?_; k_whole); intro _ _ _ N' _; (try dsimp only at N')))) | ((k_here; k_dflt (refine' (fun a b F N c U d z1 => storeX_C F N c U d z1 a b) (by rfl) (by rfl) (by k_asm) (by k_asm) (by rfl) (by k_updF) (by k_asm) ?_; k_whole); intro _ _ _ N' _; (try dsimp only at N'))))
    | ((with_reducible show wpAny _ _ (storeName _ _ _) _ _ _); k_here; k_dflt (first | (refine' storeAI s (by rfl) (by rfl) (by k_asm) (by k_asm) rfl rfl rfl ?_; k_whole; intro _ _ _ _ _) | (refine' storeAS s (by rfl) (by rfl) (by k_asm) (by k_asm) rfl rfl rfl ?_; k_whole; intro _ _ _ _ _) | (refine' storeA s (by rfl) (by rfl) (by k_asm) (by k_asm) rfl rfl rfl ?_; k_whole; intro _ _ _ _)); (try k_sweep))
    | ((with_reducible show wpAny _ _ (exec _ _) _ _ _); k_here; k_dflt (refine' anchorE s (by k_asm) rfl rfl rfl rfl ?_; k_whole; intro _); (try k_fold); walk1)
    | ((with_reducible show wpAny _ _ (exec _ _) _ _ _); k_here; k_fold; walk1)
    | walk1
    | (dsimp only; walk1)
    | (leave1; walk_say "STEP leave1"; try dsimp only)
    | fail "no step")
  unfold HeardHere
  refine' law_entered_spec B' ?FA X' T' XB TB D' rfl ?dA ?uA d o b ob ps qs rest c (newsSub ?NA ?sA) K0 I _ _ hq0 ?rA
  case FA => k_asm
  case dA => ktr_room
  case uA => ktr_units
  case NA => k_asm
  case sA => intro q hq; repeat (first | exact hq | apply List.mem_cons_of_mem)
  case rA =>
    intro h₀' o1 ob1 ps1 qs1 rest1 c1 h1' tk1' z1 z2 z3 z4 z5 K1 I1 sub1
    have X0 := XB.keeps z2.stays
    have T0 := TB.keeps z2.stays
    repeat' (first
      | (k_unfold; (try dsimp only))
      | (k_end; wrow_close)
      | ((with_reducible show LeaveT _ _ _ _ _ _ _ _ _ _ _); first | (with_reducible ((k_dflt (refine' (fun F N T z1 => leaveT_ T F N z1) (by k_asm) (by k_asm) (by with_reducible assumption) ?_; k_whole); intro _ _ _ _ _ _))) | ((k_dflt (refine' (fun F N T z1 => leaveT_ T F N z1) (by k_asm) (by k_asm) (by with_reducible assumption) ?_; k_whole); intro _ _ _ _ _ _)))
      | ((with_reducible show wpAny _ _ (call (Value.ref _) _) _ _ _); first | (with_reducible ((k_here; k_dflt (first | ((with_reducible show wpAny _ _ (call (Value.ref 166) _) _ _ _); refine heardHere ?_))))) | ((k_here; k_dflt (first | ((with_reducible show wpAny _ _ (call (Value.ref 166) _) _ _ _); refine heardHere ?_)))))
      | (first | (with_reducible ((k_here; (with_reducible show wpAny _ _ (eval (Expr.Call (Expr.Name _ _) _ [] _) _) _ _ _); k_dflt (refine Call_ ?_)))) | ((k_here; (with_reducible show wpAny _ _ (eval (Expr.Call (Expr.Name _ _) _ [] _) _) _ _ _); k_dflt (refine Call_ ?_))))
      | ((with_reducible show wpAny _ _ (callWith _ (Value.ref _) _ _ _) _ _ _); first | (with_reducible ((k_here; k_dflt (refine' callWith_K (by k_asm) (by k_is) ?_; k_whole)))) | ((k_here; k_dflt (refine' callWith_K (by k_asm) (by k_is) ?_; k_whole))))
      | ((with_reducible show wpAny _ _ (storeName _ _ _) _ _ _); first | (with_reducible ((k_here; k_dflt (refine' (fun a b F N c U d z1 => storeX_C F N c U d z1 a b) (by rfl) (by rfl) (by k_asm) (by k_asm) (by rfl) (by k_updF) (by k_asm) ?_; k_whole); intro _ _ _ N' _; (try dsimp only at N')))) | ((k_here; k_dflt (refine' (fun a b F N c U d z1 => storeX_C F N c U d z1 a b) (by rfl) (by rfl) (by k_asm) (by k_asm) (by rfl) (by k_updF) (by k_asm) ?_; k_whole); intro _ _ _ N' _; (try dsimp only at N'))))
      | ((with_reducible show wpAny _ _ (storeName _ _ _) _ _ _); k_here; k_dflt (first | (refine' storeAI s (by rfl) (by rfl) (by k_asm) (by k_asm) rfl rfl rfl ?_; k_whole; intro _ _ _ _ _) | (refine' storeAS s (by rfl) (by rfl) (by k_asm) (by k_asm) rfl rfl rfl ?_; k_whole; intro _ _ _ _ _) | (refine' storeA s (by rfl) (by rfl) (by k_asm) (by k_asm) rfl rfl rfl ?_; k_whole; intro _ _ _ _)); (try k_sweep))
      | ((with_reducible show wpAny _ _ (exec _ _) _ _ _); k_here; k_dflt (refine' anchorE s (by k_asm) rfl rfl rfl rfl ?_; k_whole; intro _); (try k_fold); walk1)
      | ((with_reducible show wpAny _ _ (exec _ _) _ _ _); k_here; k_fold; walk1)
      | walk1
      | (dsimp only; walk1)
      | (leave1; walk_say "STEP leave1"; try dsimp only)
      | fail "no step")
    rename_i zT zB zD zF zN
    exact ret _ o1 ob1 ps1 qs1 rest1 c1 _ _ zT zB zD zF zN K1 I1 sub1
end
end Mine
end

/-! part P23B -/
section
open PySem PySem.W PyProof.Rows PyProof.V
open PySem.Spec PySem.Calls
set_option maxRecDepth 100000
set_option linter.unusedVariables false
namespace Mine
theorem fresh_P23B : True := by
  w_top off
  trivial
section
variable {w : World} {p : Program} {loose : List Str} {mean : ExcName → Option Value} {mg mb : Str → Option Value} {dp un : Nat} {gd : Option (List Code)} {cn : Str} {cs : Scope} {a : Addr} {ccd : Value} {cl : List (Str × Addr)} {outer : List Env} {A₀ : Around} {base h₀ : Heap} {L : Addr} {m : Str → Option Value} {news : List (Addr × Obj)} {s : Shared}
    {Q E : Value → Shared → Prop}
local macro_rules | `(tactic| k_mem) => `(tactic| first | (with_reducible assumption) | exact List.mem_cons_self | (refine List.mem_cons_of_mem _ ?_; k_mem))
local macro_rules | `(tactic| k_all) => `(tactic| first | (with_reducible assumption) | exact List.forall_mem_nil _ | (refine List.forall_mem_cons.mpr ⟨?_, ?_⟩; (focus k_ne); k_all))
set_option maxHeartbeats 8000000 in
theorem law_deedB (B : Below A₀ base outer h₀) (F : Fr h₀ L s.heap m) (X : (hd.heap_39 w.params).In h₀) (T : Top p loose mean mg mb h₀) (XB : (hd.heap_39 w.params).In base) (TB : Top p loose mean mg mb base) (D : KtsDicts (frs outer) h₀) (hk : cs.kind = .function) (hd : dp + 120 < recursionLimit) (hu : un + 1200 < cLine)
   (d : Addr) (o : Obj) (b : Addr) (ob : Obj) (ps qs : Array Value) (rest : List (Addr × Obj)) (c : Bk) (N : News h₀ L s.heap (ledOf d o b ob ps qs rest)) (K : LedOk w d o b ob ps qs rest c) (I : Inv c) (n : Int) (tn : Tok) (h0 : 0 ≤ n) (hform : Int.fmod n 4 = 2)
   (ret : ∀ h₀' o' ob' ps' qs' rest' c' h' tk', KtsTurn (frs outer) h₀ h₀' → Below A₀ base outer h₀' → KtsDicts (frs outer) h₀' → Fr h₀' L h' m → News h₀' L h' (ledOf d o' b ob' ps' qs' rest') → LedOk w d o' b ob' ps' qs' rest' c' → Inv c' → (∀ q ∈ rest, q ∈ rest') → Q (.bool true) { s with heap := h', toks := tk' }) :
   wpAny (model PySem.Challenge.rw_pc0001_01.row.prog w) (ktrTop dp un gd cn cs L a ccd cl outer) (call (.ref 171) [.ref d, .ref b, .int n tn]) Q E s := by
  revert X; k_fill; intro X
  refine wpAny_call ?_
  k_dflt (refine' code_defT ?k1 ?k2 ?k3 ?k4 ?k5 ?kd ?kA ?kF ?kK ?k6 ?k7 ?k8 ?k9 ?kB ?kD ?_ ?c2 ?c3 ?c4; (case kA => exact rfl); (case kF => exact rfl); (case kK => assumption); (case k1 => k_asm); (case k2 => k_asm); (case k3 => k_asm); (case k4 => k_asm); (case k5 => k_asm); (case kd => assumption); (case k6 => k_is); (case k7 => k_is); (case k8 => ktr_room); (case k9 => exact BindsTo.of_eq rfl); (case kB => exact rfl); (case kD => decide +kernel); (case c2 => exact rfl); (case c3 => exact rfl); (case c4 => exact rfl); k_whole; intro g' L' h' tk' cells' FG' F' N' Y' B' X' T' D' T0' l1; k_cells Y'; (try simp only [List.cons_append, List.nil_append] at N'); (try dsimp only); (try k_fold))
  have C1 := chd170 X'
  have K0 := K
  obtain ⟨td, tb, lod, lob, db, d1, d2, b1, b2, rd, rb, r1, r2, te, tq⟩ := K
  have hc := (inv_ok I).len
  have hcn := I.nod
  replace db := neN db
  replace d1 := neN d1
  replace d2 := neN d2
  replace b1 := neN b1
  replace b2 := neN b2
  have hdL := lt_hd l1
  have hbL := lt_hd (lt_tl l1)
  have h1L := lt_hd (lt_tl (lt_tl l1))
  have h2L := lt_hd (lt_tl (lt_tl (lt_tl l1)))
  have hrL := lt_tl (lt_tl (lt_tl (lt_tl l1)))
  have hr0 : ∀ q ∈ rest, q.1 ≠ L' := ne_up 0 hrL
  have hr1 : ∀ q ∈ rest, q.1 ≠ L' + 1 := ne_up 1 hrL
  have hr2 : ∀ q ∈ rest, q.1 ≠ L' + 1 + 1 := ne_up 2 hrL
  have hr3 : ∀ q ∈ rest, q.1 ≠ L' + 1 + 1 + 1 := ne_up 3 hrL
  have hq0 := fdiv4_nn h0
  have hfA : decide (Int.fmod n 4 < 2) = false := decide_eq_false (by omega)
  have hfB : (Int.fmod n 4 == 2) = true := beq_iff_eq.mpr hform
  have hfC : decide (Int.fmod n 4 = 2) = true := decide_eq_true hform
  k_with_none
  repeat' (first
    | (k_unfold; (try dsimp only))
    | (k_end; wrow_close)
    | ((with_reducible show wpAny _ _ (exec (Stmt.For (Expr.Name _ _) (Expr.Name _ _) _ [] _) _) _ _ _); first | (with_reducible ((k_here; (rename Fr _ _ _ _ => lF'); (with_unfolding_all refine' For_invVF lF' ?k1 ?k2 ?_; (case k1 => exact rfl); (case k2 => exact rfl); k_whole)))) | ((k_here; (rename Fr _ _ _ _ => lF'); (with_unfolding_all refine' For_invVF lF' ?k1 ?k2 ?_; (case k1 => exact rfl); (case k2 => exact rfl); k_whole))))
    | ((with_reducible show wpAny _ _ (call (Value.builtin "dict.pop") _) _ _ _); first | (with_reducible ((k_here; k_dflt (refine' (fun a F N U T k c z1 => td_pop F N U T k c z1 a) (by exact PySem.F.args_dict_pop_2 _ _) (by k_asm) (by k_asm) (by with_reducible assumption) (by with_reducible assumption) (by with_reducible assumption) (by omega) ?_); intro _ _ _ _ _ _ _ _))) | ((k_here; k_dflt (refine' (fun a F N U T k c z1 => td_pop F N U T k c z1 a) (by exact PySem.F.args_dict_pop_2 _ _) (by k_asm) (by k_asm) (by with_reducible assumption) (by with_reducible assumption) (by with_reducible assumption) (by omega) ?_); intro _ _ _ _ _ _ _ _)))
    | ((with_reducible show wpAny _ _ (pyIter (Value.ref _)) _ _ _); first | (with_reducible ((k_here; k_dflt (refine heardHere ?_)))) | ((k_here; k_dflt (refine heardHere ?_))))
    | (first | (with_reducible ((k_here; (with_reducible show wpAny _ _ (getMethod (Value.ref _) (Str.ofString "pop") _) _ _ _); k_dflt (refine' td_getpop (by k_asm) (by k_mem) (by with_reducible assumption) (by with_reducible assumption) ?_)))) | ((k_here; (with_reducible show wpAny _ _ (getMethod (Value.ref _) (Str.ofString "pop") _) _ _ _); k_dflt (refine' td_getpop (by k_asm) (by k_mem) (by with_reducible assumption) (by with_reducible assumption) ?_))))
    | ((with_reducible show wpAny _ _ (exec (Stmt.Assign _ (Expr.ListComp _ _ _ _) _) _) _ _ _); first | (with_reducible ((k_here; k_dflt (refine assign_comp_dict (F₀ := by k_asm) (by rfl) (by with_unfolding_all rfl) (by decide) (by rfl) (by decide) (by rfl) (by rfl) (by rfl) ?_)))) | ((k_here; k_dflt (refine assign_comp_dict (F₀ := by k_asm) (by rfl) (by with_unfolding_all rfl) (by decide) (by rfl) (by decide) (by rfl) (by rfl) (by rfl) ?_))))
    | ((with_reducible show wpAny _ _ (eval (Expr.Lambda _ _ _ _) _) _ _ _); first | (with_reducible ((k_here; k_dflt (refine' lamD (by k_asm) (by k_asm) (by k_asm) (by with_reducible assumption) (by k_updF) (by with_reducible assumption) (by intro _ hq; repeat (first | exact hq | apply List.mem_cons_of_mem)) (by exact rfl) (by exact rfl) ?_); intro _ _ _ _ _ _ _ _ _ _ N' _ _ _ _ l1' _; (have z2' := lt_hd l1'); (try dsimp only at N')))) | ((k_here; k_dflt (refine' lamD (by k_asm) (by k_asm) (by k_asm) (by with_reducible assumption) (by k_updF) (by with_reducible assumption) (by intro _ hq; repeat (first | exact hq | apply List.mem_cons_of_mem)) (by exact rfl) (by exact rfl) ?_); intro _ _ _ _ _ _ _ _ _ _ N' _ _ _ _ l1' _; (have z2' := lt_hd l1'); (try dsimp only at N'))))
    | ((with_reducible show LeaveT _ _ _ _ _ _ _ _ _ _ _); first | (with_reducible ((k_dflt (refine' (fun F N T z1 => leaveT_ T F N z1) (by k_asm) (by k_asm) (by with_reducible assumption) ?_; k_whole); intro _ _ _ _ _ _))) | ((k_dflt (refine' (fun F N T z1 => leaveT_ T F N z1) (by k_asm) (by k_asm) (by with_reducible assumption) ?_; k_whole); intro _ _ _ _ _ _)))
    | ((with_reducible show wpAny _ _ (subscriptTail (Expr.Name _ _) (Expr.BinOp _ _ _ _) (Value.ref _) (Value.int _ _)) _ _ _); first | (with_reducible ((k_here; k_dflt (first | ((with_reducible show wpAny _ _ (subscriptTail _ _ _ (Value.int (Int.fmod _ 5) _)) _ _ _); refine' item_n5 (by k_asm) (by k_mem) (by with_reducible assumption) ?_ (by with_unfolding_all rfl) (by intro _; with_unfolding_all rfl); intro _ _ _ _) | ((with_reducible show wpAny _ _ (subscriptTail _ _ _ (Value.int (Int.fmod _ 8) _)) _ _ _); refine' item_txts (by k_asm) (by k_mem) (by with_reducible assumption) (by exact fmod_lo _ (by decide)) (by exact fmod_hi _ (by decide)) ?_ (by with_unfolding_all rfl) (by intro _; with_unfolding_all rfl); intro _ _))))) | ((k_here; k_dflt (first | ((with_reducible show wpAny _ _ (subscriptTail _ _ _ (Value.int (Int.fmod _ 5) _)) _ _ _); refine' item_n5 (by k_asm) (by k_mem) (by with_reducible assumption) ?_ (by with_unfolding_all rfl) (by intro _; with_unfolding_all rfl); intro _ _ _ _) | ((with_reducible show wpAny _ _ (subscriptTail _ _ _ (Value.int (Int.fmod _ 8) _)) _ _ _); refine' item_txts (by k_asm) (by k_mem) (by with_reducible assumption) (by exact fmod_lo _ (by decide)) (by exact fmod_hi _ (by decide)) ?_ (by with_unfolding_all rfl) (by intro _; with_unfolding_all rfl); intro _ _)))))
    | ((with_reducible show wpAny _ _ (subscriptTail (Expr.Call (Expr.Name _ _) [] [] _) (Expr.BinOp _ _ _ _) (Value.ref _) (Value.int _ _)) _ _ _); first | (with_reducible ((k_here; k_dflt (refine kba_turn (value' := PySem.Expr.Name (PySem.Str.ofString "_") ⟨0, 0, 0, 0⟩) (fun _ => rfl) ?_)))) | ((k_here; k_dflt (refine kba_turn (value' := PySem.Expr.Name (PySem.Str.ofString "_") ⟨0, 0, 0, 0⟩) (fun _ => rfl) ?_))))
    | ((with_reducible show wpAny _ _ (call (Value.ref _) _) _ _ _); first | (with_reducible ((k_here; k_dflt (first | ((with_reducible show wpAny _ _ (call (Value.ref 138) _) _ _ _); refine' law_numbers_spec (by k_asm) (by k_asm) (by k_asm) (by k_asm) (by k_asm) (by rfl) (by first | exact room1 (by with_reducible assumption) (by decide) | ktr_room) (by first | exact units1 (by with_reducible assumption) (by decide) | ktr_units) ?_; intro _ _ _ _ _ _ _ _ l1'; (have l2' := lt_hd l1'); (try k_fold)) | ((with_reducible show wpAny _ _ (call (Value.ref 145) _) _ _ _); refine heardHere ?_))))) | ((k_here; k_dflt (first | ((with_reducible show wpAny _ _ (call (Value.ref 138) _) _ _ _); refine' law_numbers_spec (by k_asm) (by k_asm) (by k_asm) (by k_asm) (by k_asm) (by rfl) (by first | exact room1 (by with_reducible assumption) (by decide) | ktr_room) (by first | exact units1 (by with_reducible assumption) (by decide) | ktr_units) ?_; intro _ _ _ _ _ _ _ _ l1'; (have l2' := lt_hd l1'); (try k_fold)) | ((with_reducible show wpAny _ _ (call (Value.ref 145) _) _ _ _); refine heardHere ?_)))))
    | (first | (with_reducible ((k_here; (with_reducible show wpAny _ _ (eval (Expr.Call (Expr.Name _ _) _ [] _) _) _ _ _); k_dflt (refine Call_ ?_)))) | ((k_here; (with_reducible show wpAny _ _ (eval (Expr.Call (Expr.Name _ _) _ [] _) _) _ _ _); k_dflt (refine Call_ ?_))))
    | ((with_reducible show wpAny _ _ (callWith _ (Value.ref _) _ _ _) _ _ _); first | (with_reducible ((k_here; k_dflt (refine' callWith_K (by k_asm) (by k_is) ?_; k_whole)))) | ((k_here; k_dflt (refine' callWith_K (by k_asm) (by k_is) ?_; k_whole))))
    | ((with_reducible show wpAny _ _ (storeName _ _ _) _ _ _); first | (with_reducible ((k_here; k_dflt (refine' (fun a b F N c U d z1 => storeX_C F N c U d z1 a b) (by rfl) (by rfl) (by k_asm) (by k_asm) (by rfl) (by k_updF) (by k_asm) ?_; k_whole); intro _ _ _ N' _; (try dsimp only at N')))) | ((k_here; k_dflt (refine' (fun a b F N c U d z1 => storeX_C F N c U d z1 a b) (by rfl) (by rfl) (by k_asm) (by k_asm) (by rfl) (by k_updF) (by k_asm) ?_; k_whole); intro _ _ _ N' _; (try dsimp only at N'))))
    | ((with_reducible show wpAny _ _ (storeName _ _ _) _ _ _); k_here; k_dflt (first | (refine' storeAI s (by rfl) (by rfl) (by k_asm) (by k_asm) rfl rfl rfl ?_; k_whole; intro _ _ _ _ _) | (refine' storeAS s (by rfl) (by rfl) (by k_asm) (by k_asm) rfl rfl rfl ?_; k_whole; intro _ _ _ _ _) | (refine' storeA s (by rfl) (by rfl) (by k_asm) (by k_asm) rfl rfl rfl ?_; k_whole; intro _ _ _ _)); (try k_sweep))
    | ((with_reducible show wpAny _ _ (exec _ _) _ _ _); k_here; k_dflt (refine' anchorE s (by k_asm) rfl rfl rfl rfl ?_; k_whole; intro _); (try k_fold); walk1)
    | ((with_reducible show wpAny _ _ (exec _ _) _ _ _); k_here; k_fold; walk1)
    | walk1
    | (dsimp only; walk1)
    | (leave1; walk_say "STEP leave1"; try dsimp only)
    | fail "no step")
  have hsz : c.length ≤ sizeLine := by rw [PySem.sizeLine_eq]; omega
  generalize hi' : numAt (Int.fmod (Int.fdiv n 4) 5) = i at *
  generalize hj' : numAt (Int.fmod (Int.fdiv (Int.fdiv n 4) 5) 5) = j at *
  clear hi' hj'
  refine' DictSrc.mk lob ?hh ?FS ?NS ?mS tb hsz ?_
  case hh => rfl
  case FS => k_asm
  case NS => k_asm
  case mS => k_mem
  intro g'
  refine lcd_filter (fun k => decide (i ≤ k) && decide (k ≤ j)) (fun k' t' I' oI' C' oC' D' m' ys' h' tk' E' hk' hC' hx' F' N' off' ne' => ?_) ?_
  · repeat' (first
      | (k_unfold; (try dsimp only))
      | (k_end; wrow_close)
      | ((with_reducible show wpAny _ _ (exec (Stmt.For (Expr.Name _ _) (Expr.Name _ _) _ [] _) _) _ _ _); first | (with_reducible ((k_here; (rename Fr _ _ _ _ => lF'); (with_unfolding_all refine' For_invVF lF' ?k1 ?k2 ?_; (case k1 => exact rfl); (case k2 => exact rfl); k_whole)))) | ((k_here; (rename Fr _ _ _ _ => lF'); (with_unfolding_all refine' For_invVF lF' ?k1 ?k2 ?_; (case k1 => exact rfl); (case k2 => exact rfl); k_whole))))
      | ((with_reducible show wpAny _ _ (call (Value.builtin "dict.pop") _) _ _ _); first | (with_reducible ((k_here; k_dflt (refine' (fun a F N U T k c z1 => td_pop F N U T k c z1 a) (by exact PySem.F.args_dict_pop_2 _ _) (by k_asm) (by k_asm) (by with_reducible assumption) (by with_reducible assumption) (by with_reducible assumption) (by omega) ?_); intro _ _ _ _ _ _ _ _))) | ((k_here; k_dflt (refine' (fun a F N U T k c z1 => td_pop F N U T k c z1 a) (by exact PySem.F.args_dict_pop_2 _ _) (by k_asm) (by k_asm) (by with_reducible assumption) (by with_reducible assumption) (by with_reducible assumption) (by omega) ?_); intro _ _ _ _ _ _ _ _)))
      | ((with_reducible show wpAny _ _ (pyIter (Value.ref _)) _ _ _); first | (with_reducible ((k_here; k_dflt (refine heardHere ?_)))) | ((k_here; k_dflt (refine heardHere ?_))))
      | (first | (with_reducible ((k_here; (with_reducible show wpAny _ _ (getMethod (Value.ref _) (Str.ofString "pop") _) _ _ _); k_dflt (refine' td_getpop (by k_asm) (by k_mem) (by with_reducible assumption) (by with_reducible assumption) ?_)))) | ((k_here; (with_reducible show wpAny _ _ (getMethod (Value.ref _) (Str.ofString "pop") _) _ _ _); k_dflt (refine' td_getpop (by k_asm) (by k_mem) (by with_reducible assumption) (by with_reducible assumption) ?_))))
      | ((with_reducible show wpAny _ _ (exec (Stmt.Assign _ (Expr.ListComp _ _ _ _) _) _) _ _ _); first | (with_reducible ((k_here; k_dflt (refine assign_comp_dict (F₀ := by k_asm) (by rfl) (by with_unfolding_all rfl) (by decide) (by rfl) (by decide) (by rfl) (by rfl) (by rfl) ?_)))) | ((k_here; k_dflt (refine assign_comp_dict (F₀ := by k_asm) (by rfl) (by with_unfolding_all rfl) (by decide) (by rfl) (by decide) (by rfl) (by rfl) (by rfl) ?_))))
      | ((with_reducible show wpAny _ _ (eval (Expr.Lambda _ _ _ _) _) _ _ _); first | (with_reducible ((k_here; k_dflt (refine' lamD (by k_asm) (by k_asm) (by k_asm) (by with_reducible assumption) (by k_updF) (by with_reducible assumption) (by intro _ hq; repeat (first | exact hq | apply List.mem_cons_of_mem)) (by exact rfl) (by exact rfl) ?_); intro _ _ _ _ _ _ _ _ _ _ N' _ _ _ _ l1' _; (have z2' := lt_hd l1'); (try dsimp only at N')))) | ((k_here; k_dflt (refine' lamD (by k_asm) (by k_asm) (by k_asm) (by with_reducible assumption) (by k_updF) (by with_reducible assumption) (by intro _ hq; repeat (first | exact hq | apply List.mem_cons_of_mem)) (by exact rfl) (by exact rfl) ?_); intro _ _ _ _ _ _ _ _ _ _ N' _ _ _ _ l1' _; (have z2' := lt_hd l1'); (try dsimp only at N'))))
      | ((with_reducible show LeaveT _ _ _ _ _ _ _ _ _ _ _); first | (with_reducible ((k_dflt (refine' (fun F N T z1 => leaveT_ T F N z1) (by k_asm) (by k_asm) (by with_reducible assumption) ?_; k_whole); intro _ _ _ _ _ _))) | ((k_dflt (refine' (fun F N T z1 => leaveT_ T F N z1) (by k_asm) (by k_asm) (by with_reducible assumption) ?_; k_whole); intro _ _ _ _ _ _)))
      | ((with_reducible show wpAny _ _ (subscriptTail (Expr.Name _ _) (Expr.BinOp _ _ _ _) (Value.ref _) (Value.int _ _)) _ _ _); first | (with_reducible ((k_here; k_dflt (first | ((with_reducible show wpAny _ _ (subscriptTail _ _ _ (Value.int (Int.fmod _ 5) _)) _ _ _); refine' item_n5 (by k_asm) (by k_mem) (by with_reducible assumption) ?_ (by with_unfolding_all rfl) (by intro _; with_unfolding_all rfl); intro _ _ _ _) | ((with_reducible show wpAny _ _ (subscriptTail _ _ _ (Value.int (Int.fmod _ 8) _)) _ _ _); refine' item_txts (by k_asm) (by k_mem) (by with_reducible assumption) (by exact fmod_lo _ (by decide)) (by exact fmod_hi _ (by decide)) ?_ (by with_unfolding_all rfl) (by intro _; with_unfolding_all rfl); intro _ _))))) | ((k_here; k_dflt (first | ((with_reducible show wpAny _ _ (subscriptTail _ _ _ (Value.int (Int.fmod _ 5) _)) _ _ _); refine' item_n5 (by k_asm) (by k_mem) (by with_reducible assumption) ?_ (by with_unfolding_all rfl) (by intro _; with_unfolding_all rfl); intro _ _ _ _) | ((with_reducible show wpAny _ _ (subscriptTail _ _ _ (Value.int (Int.fmod _ 8) _)) _ _ _); refine' item_txts (by k_asm) (by k_mem) (by with_reducible assumption) (by exact fmod_lo _ (by decide)) (by exact fmod_hi _ (by decide)) ?_ (by with_unfolding_all rfl) (by intro _; with_unfolding_all rfl); intro _ _)))))
      | ((with_reducible show wpAny _ _ (subscriptTail (Expr.Call (Expr.Name _ _) [] [] _) (Expr.BinOp _ _ _ _) (Value.ref _) (Value.int _ _)) _ _ _); first | (with_reducible ((k_here; k_dflt (refine kba_turn (value' := PySem.Expr.Name (PySem.Str.ofString "_") ⟨0, 0, 0, 0⟩) (fun _ => rfl) ?_)))) | ((k_here; k_dflt (refine kba_turn (value' := PySem.Expr.Name (PySem.Str.ofString "_") ⟨0, 0, 0, 0⟩) (fun _ => rfl) ?_))))
      | ((with_reducible show wpAny _ _ (call (Value.ref _) _) _ _ _); first | (with_reducible ((k_here; k_dflt (first | ((with_reducible show wpAny _ _ (call (Value.ref 138) _) _ _ _); refine' law_numbers_spec (by k_asm) (by k_asm) (by k_asm) (by k_asm) (by k_asm) (by rfl) (by first | exact room1 (by with_reducible assumption) (by decide) | ktr_room) (by first | exact units1 (by with_reducible assumption) (by decide) | ktr_units) ?_; intro _ _ _ _ _ _ _ _ l1'; (have l2' := lt_hd l1'); (try k_fold)) | ((with_reducible show wpAny _ _ (call (Value.ref 145) _) _ _ _); refine heardHere ?_))))) | ((k_here; k_dflt (first | ((with_reducible show wpAny _ _ (call (Value.ref 138) _) _ _ _); refine' law_numbers_spec (by k_asm) (by k_asm) (by k_asm) (by k_asm) (by k_asm) (by rfl) (by first | exact room1 (by with_reducible assumption) (by decide) | ktr_room) (by first | exact units1 (by with_reducible assumption) (by decide) | ktr_units) ?_; intro _ _ _ _ _ _ _ _ l1'; (have l2' := lt_hd l1'); (try k_fold)) | ((with_reducible show wpAny _ _ (call (Value.ref 145) _) _ _ _); refine heardHere ?_)))))
      | (first | (with_reducible ((k_here; (with_reducible show wpAny _ _ (eval (Expr.Call (Expr.Name _ _) _ [] _) _) _ _ _); k_dflt (refine Call_ ?_)))) | ((k_here; (with_reducible show wpAny _ _ (eval (Expr.Call (Expr.Name _ _) _ [] _) _) _ _ _); k_dflt (refine Call_ ?_))))
      | ((with_reducible show wpAny _ _ (callWith _ (Value.ref _) _ _ _) _ _ _); first | (with_reducible ((k_here; k_dflt (refine' callWith_K (by k_asm) (by k_is) ?_; k_whole)))) | ((k_here; k_dflt (refine' callWith_K (by k_asm) (by k_is) ?_; k_whole))))
      | ((with_reducible show wpAny _ _ (storeName _ _ _) _ _ _); first | (with_reducible ((k_here; k_dflt (refine' (fun a b F N c U d z1 => storeX_C F N c U d z1 a b) (by rfl) (by rfl) (by k_asm) (by k_asm) (by rfl) (by k_updF) (by k_asm) ?_; k_whole); intro _ _ _ N' _; (try dsimp only at N')))) | ((k_here; k_dflt (refine' (fun a b F N c U d z1 => storeX_C F N c U d z1 a b) (by rfl) (by rfl) (by k_asm) (by k_asm) (by rfl) (by k_updF) (by k_asm) ?_; k_whole); intro _ _ _ N' _; (try dsimp only at N'))))
      | ((with_reducible show wpAny _ _ (storeName _ _ _) _ _ _); k_here; k_dflt (first | (refine' storeAI s (by rfl) (by rfl) (by k_asm) (by k_asm) rfl rfl rfl ?_; k_whole; intro _ _ _ _ _) | (refine' storeAS s (by rfl) (by rfl) (by k_asm) (by k_asm) rfl rfl rfl ?_; k_whole; intro _ _ _ _ _) | (refine' storeA s (by rfl) (by rfl) (by k_asm) (by k_asm) rfl rfl rfl ?_; k_whole; intro _ _ _ _)); (try k_sweep))
      | ((with_reducible show wpAny _ _ (exec _ _) _ _ _); k_here; k_dflt (refine' anchorE s (by k_asm) rfl rfl rfl rfl ?_; k_whole; intro _); (try k_fold); walk1)
      | ((with_reducible show wpAny _ _ (exec _ _) _ _ _); k_here; k_fold; walk1)
      | walk1
      | (dsimp only; walk1)
      | (leave1; walk_say "STEP leave1"; try dsimp only)
      | fail "no step")
    · exact ⟨h', _, _, rfl, F', N', off', by k_mem, rfl, Bool.and_eq_true_iff.mpr ⟨decide_eq_true (by omega), decide_eq_true (by omega)⟩, _, rfl⟩
    all_goals exact ⟨h', _, _, rfl, F', N', off', by k_mem, rfl, Bool.eq_false_iff.mpr (fun e => by rw [Bool.and_eq_true, decide_eq_true_eq, decide_eq_true_eq] at e; omega)⟩
  · intro ys' hy'
    have hy : IntsAre ys' (gones c i j) := hy'
    clear hy'
    repeat' (first
      | (k_unfold; (try dsimp only))
      | (k_end; wrow_close)
      | ((with_reducible show wpAny _ _ (exec (Stmt.For (Expr.Name _ _) (Expr.Name _ _) _ [] _) _) _ _ _); first | (with_reducible ((k_here; (rename Fr _ _ _ _ => lF'); (with_unfolding_all refine' For_invVF lF' ?k1 ?k2 ?_; (case k1 => exact rfl); (case k2 => exact rfl); k_whole)))) | ((k_here; (rename Fr _ _ _ _ => lF'); (with_unfolding_all refine' For_invVF lF' ?k1 ?k2 ?_; (case k1 => exact rfl); (case k2 => exact rfl); k_whole))))
      | ((with_reducible show wpAny _ _ (call (Value.builtin "dict.pop") _) _ _ _); first | (with_reducible ((k_here; k_dflt (refine' (fun a F N U T k c z1 => td_pop F N U T k c z1 a) (by exact PySem.F.args_dict_pop_2 _ _) (by k_asm) (by k_asm) (by with_reducible assumption) (by with_reducible assumption) (by with_reducible assumption) (by omega) ?_); intro _ _ _ _ _ _ _ _))) | ((k_here; k_dflt (refine' (fun a F N U T k c z1 => td_pop F N U T k c z1 a) (by exact PySem.F.args_dict_pop_2 _ _) (by k_asm) (by k_asm) (by with_reducible assumption) (by with_reducible assumption) (by with_reducible assumption) (by omega) ?_); intro _ _ _ _ _ _ _ _)))
      | ((with_reducible show wpAny _ _ (pyIter (Value.ref _)) _ _ _); first | (with_reducible ((k_here; k_dflt (refine heardHere ?_)))) | ((k_here; k_dflt (refine heardHere ?_))))
      | (first | (with_reducible ((k_here; (with_reducible show wpAny _ _ (getMethod (Value.ref _) (Str.ofString "pop") _) _ _ _); k_dflt (refine' td_getpop (by k_asm) (by k_mem) (by with_reducible assumption) (by with_reducible assumption) ?_)))) | ((k_here; (with_reducible show wpAny _ _ (getMethod (Value.ref _) (Str.ofString "pop") _) _ _ _); k_dflt (refine' td_getpop (by k_asm) (by k_mem) (by with_reducible assumption) (by with_reducible assumption) ?_))))
      | ((with_reducible show wpAny _ _ (exec (Stmt.Assign _ (Expr.ListComp _ _ _ _) _) _) _ _ _); first | (with_reducible ((k_here; k_dflt (refine assign_comp_dict (F₀ := by k_asm) (by rfl) (by with_unfolding_all rfl) (by decide) (by rfl) (by decide) (by rfl) (by rfl) (by rfl) ?_)))) | ((k_here; k_dflt (refine assign_comp_dict (F₀ := by k_asm) (by rfl) (by with_unfolding_all rfl) (by decide) (by rfl) (by decide) (by rfl) (by rfl) (by rfl) ?_))))
      | ((with_reducible show wpAny _ _ (eval (Expr.Lambda _ _ _ _) _) _ _ _); first | (with_reducible ((k_here; k_dflt (refine' lamD (by k_asm) (by k_asm) (by k_asm) (by with_reducible assumption) (by k_updF) (by with_reducible assumption) (by intro _ hq; repeat (first | exact hq | apply List.mem_cons_of_mem)) (by exact rfl) (by exact rfl) ?_); intro _ _ _ _ _ _ _ _ _ _ N' _ _ _ _ l1' _; (have z2' := lt_hd l1'); (try dsimp only at N')))) | ((k_here; k_dflt (refine' lamD (by k_asm) (by k_asm) (by k_asm) (by with_reducible assumption) (by k_updF) (by with_reducible assumption) (by intro _ hq; repeat (first | exact hq | apply List.mem_cons_of_mem)) (by exact rfl) (by exact rfl) ?_); intro _ _ _ _ _ _ _ _ _ _ N' _ _ _ _ l1' _; (have z2' := lt_hd l1'); (try dsimp only at N'))))
      | ((with_reducible show LeaveT _ _ _ _ _ _ _ _ _ _ _); first | (with_reducible ((k_dflt (refine' (fun F N T z1 => leaveT_ T F N z1) (by k_asm) (by k_asm) (by with_reducible assumption) ?_; k_whole); intro _ _ _ _ _ _))) | ((k_dflt (refine' (fun F N T z1 => leaveT_ T F N z1) (by k_asm) (by k_asm) (by with_reducible assumption) ?_; k_whole); intro _ _ _ _ _ _)))
      | ((with_reducible show wpAny _ _ (subscriptTail (Expr.Name _ _) (Expr.BinOp _ _ _ _) (Value.ref _) (Value.int _ _)) _ _ _); first | (with_reducible ((k_here; k_dflt (first | ((with_reducible show wpAny _ _ (subscriptTail _ _ _ (Value.int (Int.fmod _ 5) _)) _ _ _); refine' item_n5 (by k_asm) (by k_mem) (by with_reducible assumption) ?_ (by with_unfolding_all rfl) (by intro _; with_unfolding_all rfl); intro _ _ _ _) | ((with_reducible show wpAny _ _ (subscriptTail _ _ _ (Value.int (Int.fmod _ 8) _)) _ _ _); refine' item_txts (by k_asm) (by k_mem) (by with_reducible assumption) (by exact fmod_lo _ (by decide)) (by exact fmod_hi _ (by decide)) ?_ (by with_unfolding_all rfl) (by intro _; with_unfolding_all rfl); intro _ _))))) | ((k_here; k_dflt (first | ((with_reducible show wpAny _ _ (subscriptTail _ _ _ (Value.int (Int.fmod _ 5) _)) _ _ _); refine' item_n5 (by k_asm) (by k_mem) (by with_reducible assumption) ?_ (by with_unfolding_all rfl) (by intro _; with_unfolding_all rfl); intro _ _ _ _) | ((with_reducible show wpAny _ _ (subscriptTail _ _ _ (Value.int (Int.fmod _ 8) _)) _ _ _); refine' item_txts (by k_asm) (by k_mem) (by with_reducible assumption) (by exact fmod_lo _ (by decide)) (by exact fmod_hi _ (by decide)) ?_ (by with_unfolding_all rfl) (by intro _; with_unfolding_all rfl); intro _ _)))))
      | ((with_reducible show wpAny _ _ (subscriptTail (Expr.Call (Expr.Name _ _) [] [] _) (Expr.BinOp _ _ _ _) (Value.ref _) (Value.int _ _)) _ _ _); first | (with_reducible ((k_here; k_dflt (refine kba_turn (value' := PySem.Expr.Name (PySem.Str.ofString "_") ⟨0, 0, 0, 0⟩) (fun _ => rfl) ?_)))) | ((k_here; k_dflt (refine kba_turn (value' := PySem.Expr.Name (PySem.Str.ofString "_") ⟨0, 0, 0, 0⟩) (fun _ => rfl) ?_))))
      | ((with_reducible show wpAny _ _ (call (Value.ref _) _) _ _ _); first | (with_reducible ((k_here; k_dflt (first | ((with_reducible show wpAny _ _ (call (Value.ref 138) _) _ _ _); refine' law_numbers_spec (by k_asm) (by k_asm) (by k_asm) (by k_asm) (by k_asm) (by rfl) (by first | exact room1 (by with_reducible assumption) (by decide) | ktr_room) (by first | exact units1 (by with_reducible assumption) (by decide) | ktr_units) ?_; intro _ _ _ _ _ _ _ _ l1'; (have l2' := lt_hd l1'); (try k_fold)) | ((with_reducible show wpAny _ _ (call (Value.ref 145) _) _ _ _); refine heardHere ?_))))) | ((k_here; k_dflt (first | ((with_reducible show wpAny _ _ (call (Value.ref 138) _) _ _ _); refine' law_numbers_spec (by k_asm) (by k_asm) (by k_asm) (by k_asm) (by k_asm) (by rfl) (by first | exact room1 (by with_reducible assumption) (by decide) | ktr_room) (by first | exact units1 (by with_reducible assumption) (by decide) | ktr_units) ?_; intro _ _ _ _ _ _ _ _ l1'; (have l2' := lt_hd l1'); (try k_fold)) | ((with_reducible show wpAny _ _ (call (Value.ref 145) _) _ _ _); refine heardHere ?_)))))
      | (first | (with_reducible ((k_here; (with_reducible show wpAny _ _ (eval (Expr.Call (Expr.Name _ _) _ [] _) _) _ _ _); k_dflt (refine Call_ ?_)))) | ((k_here; (with_reducible show wpAny _ _ (eval (Expr.Call (Expr.Name _ _) _ [] _) _) _ _ _); k_dflt (refine Call_ ?_))))
      | ((with_reducible show wpAny _ _ (callWith _ (Value.ref _) _ _ _) _ _ _); first | (with_reducible ((k_here; k_dflt (refine' callWith_K (by k_asm) (by k_is) ?_; k_whole)))) | ((k_here; k_dflt (refine' callWith_K (by k_asm) (by k_is) ?_; k_whole))))
      | ((with_reducible show wpAny _ _ (storeName _ _ _) _ _ _); first | (with_reducible ((k_here; k_dflt (refine' (fun a b F N c U d z1 => storeX_C F N c U d z1 a b) (by rfl) (by rfl) (by k_asm) (by k_asm) (by rfl) (by k_updF) (by k_asm) ?_; k_whole); intro _ _ _ N' _; (try dsimp only at N')))) | ((k_here; k_dflt (refine' (fun a b F N c U d z1 => storeX_C F N c U d z1 a b) (by rfl) (by rfl) (by k_asm) (by k_asm) (by rfl) (by k_updF) (by k_asm) ?_; k_whole); intro _ _ _ N' _; (try dsimp only at N'))))
      | ((with_reducible show wpAny _ _ (storeName _ _ _) _ _ _); k_here; k_dflt (first | (refine' storeAI s (by rfl) (by rfl) (by k_asm) (by k_asm) rfl rfl rfl ?_; k_whole; intro _ _ _ _ _) | (refine' storeAS s (by rfl) (by rfl) (by k_asm) (by k_asm) rfl rfl rfl ?_; k_whole; intro _ _ _ _ _) | (refine' storeA s (by rfl) (by rfl) (by k_asm) (by k_asm) rfl rfl rfl ?_; k_whole; intro _ _ _ _)); (try k_sweep))
      | ((with_reducible show wpAny _ _ (exec _ _) _ _ _); k_here; k_dflt (refine' anchorE s (by k_asm) rfl rfl rfl rfl ?_; k_whole; intro _); (try k_fold); walk1)
      | ((with_reducible show wpAny _ _ (exec _ _) _ _ _); k_here; k_fold; walk1)
      | walk1
      | (dsimp only; walk1)
      | (leave1; walk_say "STEP leave1"; try dsimp only)
      | fail "no step")
    · unfold HeardHere
      refine' iter_pops (d := b) ?hhX ?hlX ?hiX ?FX ?NX ?UX ?TX ?nX ?sX ?tuX ?dnX
      case hhX => rfl
      case FX => k_asm
      case NX => k_asm
      case UX => k_updF
      case hlX => intro _; k_mem
      case TX => with_reducible exact tb
      case hiX => with_reducible exact hy
      case nX => exact gones_nodup hcn
      case sX => exact fun _ h => gones_has h
      case tuX =>
        intro n' t' o' c' h' tk' own' hn' hs' hc' TP U' hm' F' N'
        repeat' (first
          | (k_unfold; (try dsimp only))
          | (k_end; wrow_close)
          | ((with_reducible show wpAny _ _ (exec (Stmt.For (Expr.Name _ _) (Expr.Name _ _) _ [] _) _) _ _ _); first | (with_reducible ((k_here; (rename Fr _ _ _ _ => lF'); (with_unfolding_all refine' For_invVF lF' ?k1 ?k2 ?_; (case k1 => exact rfl); (case k2 => exact rfl); k_whole)))) | ((k_here; (rename Fr _ _ _ _ => lF'); (with_unfolding_all refine' For_invVF lF' ?k1 ?k2 ?_; (case k1 => exact rfl); (case k2 => exact rfl); k_whole))))
          | ((with_reducible show wpAny _ _ (call (Value.builtin "dict.pop") _) _ _ _); first | (with_reducible ((k_here; k_dflt (refine' (fun a F N U T k c z1 => td_pop F N U T k c z1 a) (by exact PySem.F.args_dict_pop_2 _ _) (by k_asm) (by k_asm) (by with_reducible assumption) (by with_reducible assumption) (by with_reducible assumption) (by omega) ?_); intro _ _ _ _ _ _ _ _))) | ((k_here; k_dflt (refine' (fun a F N U T k c z1 => td_pop F N U T k c z1 a) (by exact PySem.F.args_dict_pop_2 _ _) (by k_asm) (by k_asm) (by with_reducible assumption) (by with_reducible assumption) (by with_reducible assumption) (by omega) ?_); intro _ _ _ _ _ _ _ _)))
          | ((with_reducible show wpAny _ _ (pyIter (Value.ref _)) _ _ _); first | (with_reducible ((k_here; k_dflt (refine heardHere ?_)))) | ((k_here; k_dflt (refine heardHere ?_))))
          | (first | (with_reducible ((k_here; (with_reducible show wpAny _ _ (getMethod (Value.ref _) (Str.ofString "pop") _) _ _ _); k_dflt (refine' td_getpop (by k_asm) (by k_mem) (by with_reducible assumption) (by with_reducible assumption) ?_)))) | ((k_here; (with_reducible show wpAny _ _ (getMethod (Value.ref _) (Str.ofString "pop") _) _ _ _); k_dflt (refine' td_getpop (by k_asm) (by k_mem) (by with_reducible assumption) (by with_reducible assumption) ?_))))
          | ((with_reducible show wpAny _ _ (exec (Stmt.Assign _ (Expr.ListComp _ _ _ _) _) _) _ _ _); first | (with_reducible ((k_here; k_dflt (refine assign_comp_dict (F₀ := by k_asm) (by rfl) (by with_unfolding_all rfl) (by decide) (by rfl) (by decide) (by rfl) (by rfl) (by rfl) ?_)))) | ((k_here; k_dflt (refine assign_comp_dict (F₀ := by k_asm) (by rfl) (by with_unfolding_all rfl) (by decide) (by rfl) (by decide) (by rfl) (by rfl) (by rfl) ?_))))
          | ((with_reducible show wpAny _ _ (eval (Expr.Lambda _ _ _ _) _) _ _ _); first | (with_reducible ((k_here; k_dflt (refine' lamD (by k_asm) (by k_asm) (by k_asm) (by with_reducible assumption) (by k_updF) (by with_reducible assumption) (by intro _ hq; repeat (first | exact hq | apply List.mem_cons_of_mem)) (by exact rfl) (by exact rfl) ?_); intro _ _ _ _ _ _ _ _ _ _ N' _ _ _ _ l1' _; (have z2' := lt_hd l1'); (try dsimp only at N')))) | ((k_here; k_dflt (refine' lamD (by k_asm) (by k_asm) (by k_asm) (by with_reducible assumption) (by k_updF) (by with_reducible assumption) (by intro _ hq; repeat (first | exact hq | apply List.mem_cons_of_mem)) (by exact rfl) (by exact rfl) ?_); intro _ _ _ _ _ _ _ _ _ _ N' _ _ _ _ l1' _; (have z2' := lt_hd l1'); (try dsimp only at N'))))
          | ((with_reducible show LeaveT _ _ _ _ _ _ _ _ _ _ _); first | (with_reducible ((k_dflt (refine' (fun F N T z1 => leaveT_ T F N z1) (by k_asm) (by k_asm) (by with_reducible assumption) ?_; k_whole); intro _ _ _ _ _ _))) | ((k_dflt (refine' (fun F N T z1 => leaveT_ T F N z1) (by k_asm) (by k_asm) (by with_reducible assumption) ?_; k_whole); intro _ _ _ _ _ _)))
          | ((with_reducible show wpAny _ _ (subscriptTail (Expr.Name _ _) (Expr.BinOp _ _ _ _) (Value.ref _) (Value.int _ _)) _ _ _); first | (with_reducible ((k_here; k_dflt (first | ((with_reducible show wpAny _ _ (subscriptTail _ _ _ (Value.int (Int.fmod _ 5) _)) _ _ _); refine' item_n5 (by k_asm) (by k_mem) (by with_reducible assumption) ?_ (by with_unfolding_all rfl) (by intro _; with_unfolding_all rfl); intro _ _ _ _) | ((with_reducible show wpAny _ _ (subscriptTail _ _ _ (Value.int (Int.fmod _ 8) _)) _ _ _); refine' item_txts (by k_asm) (by k_mem) (by with_reducible assumption) (by exact fmod_lo _ (by decide)) (by exact fmod_hi _ (by decide)) ?_ (by with_unfolding_all rfl) (by intro _; with_unfolding_all rfl); intro _ _))))) | ((k_here; k_dflt (first | ((with_reducible show wpAny _ _ (subscriptTail _ _ _ (Value.int (Int.fmod _ 5) _)) _ _ _); refine' item_n5 (by k_asm) (by k_mem) (by with_reducible assumption) ?_ (by with_unfolding_all rfl) (by intro _; with_unfolding_all rfl); intro _ _ _ _) | ((with_reducible show wpAny _ _ (subscriptTail _ _ _ (Value.int (Int.fmod _ 8) _)) _ _ _); refine' item_txts (by k_asm) (by k_mem) (by with_reducible assumption) (by exact fmod_lo _ (by decide)) (by exact fmod_hi _ (by decide)) ?_ (by with_unfolding_all rfl) (by intro _; with_unfolding_all rfl); intro _ _)))))
          | ((with_reducible show wpAny _ _ (subscriptTail (Expr.Call (Expr.Name _ _) [] [] _) (Expr.BinOp _ _ _ _) (Value.ref _) (Value.int _ _)) _ _ _); first | (with_reducible ((k_here; k_dflt (refine kba_turn (value' := PySem.Expr.Name (PySem.Str.ofString "_") ⟨0, 0, 0, 0⟩) (fun _ => rfl) ?_)))) | ((k_here; k_dflt (refine kba_turn (value' := PySem.Expr.Name (PySem.Str.ofString "_") ⟨0, 0, 0, 0⟩) (fun _ => rfl) ?_))))
          | ((with_reducible show wpAny _ _ (call (Value.ref _) _) _ _ _); first | (with_reducible ((k_here; k_dflt (first | ((with_reducible show wpAny _ _ (call (Value.ref 138) _) _ _ _); refine' law_numbers_spec (by k_asm) (by k_asm) (by k_asm) (by k_asm) (by k_asm) (by rfl) (by first | exact room1 (by with_reducible assumption) (by decide) | ktr_room) (by first | exact units1 (by with_reducible assumption) (by decide) | ktr_units) ?_; intro _ _ _ _ _ _ _ _ l1'; (have l2' := lt_hd l1'); (try k_fold)) | ((with_reducible show wpAny _ _ (call (Value.ref 145) _) _ _ _); refine heardHere ?_))))) | ((k_here; k_dflt (first | ((with_reducible show wpAny _ _ (call (Value.ref 138) _) _ _ _); refine' law_numbers_spec (by k_asm) (by k_asm) (by k_asm) (by k_asm) (by k_asm) (by rfl) (by first | exact room1 (by with_reducible assumption) (by decide) | ktr_room) (by first | exact units1 (by with_reducible assumption) (by decide) | ktr_units) ?_; intro _ _ _ _ _ _ _ _ l1'; (have l2' := lt_hd l1'); (try k_fold)) | ((with_reducible show wpAny _ _ (call (Value.ref 145) _) _ _ _); refine heardHere ?_)))))
          | (first | (with_reducible ((k_here; (with_reducible show wpAny _ _ (eval (Expr.Call (Expr.Name _ _) _ [] _) _) _ _ _); k_dflt (refine Call_ ?_)))) | ((k_here; (with_reducible show wpAny _ _ (eval (Expr.Call (Expr.Name _ _) _ [] _) _) _ _ _); k_dflt (refine Call_ ?_))))
          | ((with_reducible show wpAny _ _ (callWith _ (Value.ref _) _ _ _) _ _ _); first | (with_reducible ((k_here; k_dflt (refine' callWith_K (by k_asm) (by k_is) ?_; k_whole)))) | ((k_here; k_dflt (refine' callWith_K (by k_asm) (by k_is) ?_; k_whole))))
          | ((with_reducible show wpAny _ _ (storeName _ _ _) _ _ _); first | (with_reducible ((k_here; k_dflt (refine' (fun a b F N c U d z1 => storeX_C F N c U d z1 a b) (by rfl) (by rfl) (by k_asm) (by k_asm) (by rfl) (by k_updF) (by k_asm) ?_; k_whole); intro _ _ _ N' _; (try dsimp only at N')))) | ((k_here; k_dflt (refine' (fun a b F N c U d z1 => storeX_C F N c U d z1 a b) (by rfl) (by rfl) (by k_asm) (by k_asm) (by rfl) (by k_updF) (by k_asm) ?_; k_whole); intro _ _ _ N' _; (try dsimp only at N'))))
          | ((with_reducible show wpAny _ _ (storeName _ _ _) _ _ _); k_here; k_dflt (first | (refine' storeAI s (by rfl) (by rfl) (by k_asm) (by k_asm) rfl rfl rfl ?_; k_whole; intro _ _ _ _ _) | (refine' storeAS s (by rfl) (by rfl) (by k_asm) (by k_asm) rfl rfl rfl ?_; k_whole; intro _ _ _ _ _) | (refine' storeA s (by rfl) (by rfl) (by k_asm) (by k_asm) rfl rfl rfl ?_; k_whole; intro _ _ _ _)); (try k_sweep))
          | ((with_reducible show wpAny _ _ (exec _ _) _ _ _); k_here; k_dflt (refine' anchorE s (by k_asm) rfl rfl rfl rfl ?_; k_whole; intro _); (try k_fold); walk1)
          | ((with_reducible show wpAny _ _ (exec _ _) _ _ _); k_here; k_fold; walk1)
          | walk1
          | (dsimp only; walk1)
          | (leave1; walk_say "STEP leave1"; try dsimp only)
          | fail "no step")
        exact ⟨rfl, _, _, _, rfl, by first | with_reducible assumption | assumption, by first | with_reducible assumption | assumption, by first | with_reducible assumption | assumption⟩
      case dnX =>
        intro o' q' h' tk' TP F' N'
        have hg : gones c i j = [] := of_decide_eq_true (by with_reducible assumption)
        rw [hg] at TP
        replace TP : TDict PR w o' c := TP
        repeat' (first
          | (k_unfold; (try dsimp only))
          | (k_end; wrow_close)
          | ((with_reducible show wpAny _ _ (exec (Stmt.For (Expr.Name _ _) (Expr.Name _ _) _ [] _) _) _ _ _); first | (with_reducible ((k_here; (rename Fr _ _ _ _ => lF'); (with_unfolding_all refine' For_invVF lF' ?k1 ?k2 ?_; (case k1 => exact rfl); (case k2 => exact rfl); k_whole)))) | ((k_here; (rename Fr _ _ _ _ => lF'); (with_unfolding_all refine' For_invVF lF' ?k1 ?k2 ?_; (case k1 => exact rfl); (case k2 => exact rfl); k_whole))))
          | ((with_reducible show wpAny _ _ (call (Value.builtin "dict.pop") _) _ _ _); first | (with_reducible ((k_here; k_dflt (refine' (fun a F N U T k c z1 => td_pop F N U T k c z1 a) (by exact PySem.F.args_dict_pop_2 _ _) (by k_asm) (by k_asm) (by with_reducible assumption) (by with_reducible assumption) (by with_reducible assumption) (by omega) ?_); intro _ _ _ _ _ _ _ _))) | ((k_here; k_dflt (refine' (fun a F N U T k c z1 => td_pop F N U T k c z1 a) (by exact PySem.F.args_dict_pop_2 _ _) (by k_asm) (by k_asm) (by with_reducible assumption) (by with_reducible assumption) (by with_reducible assumption) (by omega) ?_); intro _ _ _ _ _ _ _ _)))
          | ((with_reducible show wpAny _ _ (pyIter (Value.ref _)) _ _ _); first | (with_reducible ((k_here; k_dflt (refine heardHere ?_)))) | ((k_here; k_dflt (refine heardHere ?_))))
          | (first | (with_reducible ((k_here; (with_reducible show wpAny _ _ (getMethod (Value.ref _) (Str.ofString "pop") _) _ _ _); k_dflt (refine' td_getpop (by k_asm) (by k_mem) (by with_reducible assumption) (by with_reducible assumption) ?_)))) | ((k_here; (with_reducible show wpAny _ _ (getMethod (Value.ref _) (Str.ofString "pop") _) _ _ _); k_dflt (refine' td_getpop (by k_asm) (by k_mem) (by with_reducible assumption) (by with_reducible assumption) ?_))))
          | ((with_reducible show wpAny _ _ (exec (Stmt.Assign _ (Expr.ListComp _ _ _ _) _) _) _ _ _); first | (with_reducible ((k_here; k_dflt (refine assign_comp_dict (F₀ := by k_asm) (by rfl) (by with_unfolding_all rfl) (by decide) (by rfl) (by decide) (by rfl) (by rfl) (by rfl) ?_)))) | ((k_here; k_dflt (refine assign_comp_dict (F₀ := by k_asm) (by rfl) (by with_unfolding_all rfl) (by decide) (by rfl) (by decide) (by rfl) (by rfl) (by rfl) ?_))))
          | ((with_reducible show wpAny _ _ (eval (Expr.Lambda _ _ _ _) _) _ _ _); first | (with_reducible ((k_here; k_dflt (refine' lamD (by k_asm) (by k_asm) (by k_asm) (by with_reducible assumption) (by k_updF) (by with_reducible assumption) (by intro _ hq; repeat (first | exact hq | apply List.mem_cons_of_mem)) (by exact rfl) (by exact rfl) ?_); intro _ _ _ _ _ _ _ _ _ _ N' _ _ _ _ l1' _; (have z2' := lt_hd l1'); (try dsimp only at N')))) | ((k_here; k_dflt (refine' lamD (by k_asm) (by k_asm) (by k_asm) (by with_reducible assumption) (by k_updF) (by with_reducible assumption) (by intro _ hq; repeat (first | exact hq | apply List.mem_cons_of_mem)) (by exact rfl) (by exact rfl) ?_); intro _ _ _ _ _ _ _ _ _ _ N' _ _ _ _ l1' _; (have z2' := lt_hd l1'); (try dsimp only at N'))))
          | ((with_reducible show LeaveT _ _ _ _ _ _ _ _ _ _ _); first | (with_reducible ((k_dflt (refine' (fun F N T z1 => leaveT_ T F N z1) (by k_asm) (by k_asm) (by with_reducible assumption) ?_; k_whole); intro _ _ _ _ _ _))) | ((k_dflt (refine' (fun F N T z1 => leaveT_ T F N z1) (by k_asm) (by k_asm) (by with_reducible assumption) ?_; k_whole); intro _ _ _ _ _ _)))
          | ((with_reducible show wpAny _ _ (subscriptTail (Expr.Name _ _) (Expr.BinOp _ _ _ _) (Value.ref _) (Value.int _ _)) _ _ _); first | (with_reducible ((k_here; k_dflt (first | ((with_reducible show wpAny _ _ (subscriptTail _ _ _ (Value.int (Int.fmod _ 5) _)) _ _ _); refine' item_n5 (by k_asm) (by k_mem) (by with_reducible assumption) ?_ (by with_unfolding_all rfl) (by intro _; with_unfolding_all rfl); intro _ _ _ _) | ((with_reducible show wpAny _ _ (subscriptTail _ _ _ (Value.int (Int.fmod _ 8) _)) _ _ _); refine' item_txts (by k_asm) (by k_mem) (by with_reducible assumption) (by exact fmod_lo _ (by decide)) (by exact fmod_hi _ (by decide)) ?_ (by with_unfolding_all rfl) (by intro _; with_unfolding_all rfl); intro _ _))))) | ((k_here; k_dflt (first | ((with_reducible show wpAny _ _ (subscriptTail _ _ _ (Value.int (Int.fmod _ 5) _)) _ _ _); refine' item_n5 (by k_asm) (by k_mem) (by with_reducible assumption) ?_ (by with_unfolding_all rfl) (by intro _; with_unfolding_all rfl); intro _ _ _ _) | ((with_reducible show wpAny _ _ (subscriptTail _ _ _ (Value.int (Int.fmod _ 8) _)) _ _ _); refine' item_txts (by k_asm) (by k_mem) (by with_reducible assumption) (by exact fmod_lo _ (by decide)) (by exact fmod_hi _ (by decide)) ?_ (by with_unfolding_all rfl) (by intro _; with_unfolding_all rfl); intro _ _)))))
          | ((with_reducible show wpAny _ _ (subscriptTail (Expr.Call (Expr.Name _ _) [] [] _) (Expr.BinOp _ _ _ _) (Value.ref _) (Value.int _ _)) _ _ _); first | (with_reducible ((k_here; k_dflt (refine kba_turn (value' := PySem.Expr.Name (PySem.Str.ofString "_") ⟨0, 0, 0, 0⟩) (fun _ => rfl) ?_)))) | ((k_here; k_dflt (refine kba_turn (value' := PySem.Expr.Name (PySem.Str.ofString "_") ⟨0, 0, 0, 0⟩) (fun _ => rfl) ?_))))
          | ((with_reducible show wpAny _ _ (call (Value.ref _) _) _ _ _); first | (with_reducible ((k_here; k_dflt (first | ((with_reducible show wpAny _ _ (call (Value.ref 138) _) _ _ _); refine' law_numbers_spec (by k_asm) (by k_asm) (by k_asm) (by k_asm) (by k_asm) (by rfl) (by first | exact room1 (by with_reducible assumption) (by decide) | ktr_room) (by first | exact units1 (by with_reducible assumption) (by decide) | ktr_units) ?_; intro _ _ _ _ _ _ _ _ l1'; (have l2' := lt_hd l1'); (try k_fold)) | ((with_reducible show wpAny _ _ (call (Value.ref 145) _) _ _ _); refine heardHere ?_))))) | ((k_here; k_dflt (first | ((with_reducible show wpAny _ _ (call (Value.ref 138) _) _ _ _); refine' law_numbers_spec (by k_asm) (by k_asm) (by k_asm) (by k_asm) (by k_asm) (by rfl) (by first | exact room1 (by with_reducible assumption) (by decide) | ktr_room) (by first | exact units1 (by with_reducible assumption) (by decide) | ktr_units) ?_; intro _ _ _ _ _ _ _ _ l1'; (have l2' := lt_hd l1'); (try k_fold)) | ((with_reducible show wpAny _ _ (call (Value.ref 145) _) _ _ _); refine heardHere ?_)))))
          | (first | (with_reducible ((k_here; (with_reducible show wpAny _ _ (eval (Expr.Call (Expr.Name _ _) _ [] _) _) _ _ _); k_dflt (refine Call_ ?_)))) | ((k_here; (with_reducible show wpAny _ _ (eval (Expr.Call (Expr.Name _ _) _ [] _) _) _ _ _); k_dflt (refine Call_ ?_))))
          | ((with_reducible show wpAny _ _ (callWith _ (Value.ref _) _ _ _) _ _ _); first | (with_reducible ((k_here; k_dflt (refine' callWith_K (by k_asm) (by k_is) ?_; k_whole)))) | ((k_here; k_dflt (refine' callWith_K (by k_asm) (by k_is) ?_; k_whole))))
          | ((with_reducible show wpAny _ _ (storeName _ _ _) _ _ _); first | (with_reducible ((k_here; k_dflt (refine' (fun a b F N c U d z1 => storeX_C F N c U d z1 a b) (by rfl) (by rfl) (by k_asm) (by k_asm) (by rfl) (by k_updF) (by k_asm) ?_; k_whole); intro _ _ _ N' _; (try dsimp only at N')))) | ((k_here; k_dflt (refine' (fun a b F N c U d z1 => storeX_C F N c U d z1 a b) (by rfl) (by rfl) (by k_asm) (by k_asm) (by rfl) (by k_updF) (by k_asm) ?_; k_whole); intro _ _ _ N' _; (try dsimp only at N'))))
          | ((with_reducible show wpAny _ _ (storeName _ _ _) _ _ _); k_here; k_dflt (first | (refine' storeAI s (by rfl) (by rfl) (by k_asm) (by k_asm) rfl rfl rfl ?_; k_whole; intro _ _ _ _ _) | (refine' storeAS s (by rfl) (by rfl) (by k_asm) (by k_asm) rfl rfl rfl ?_; k_whole; intro _ _ _ _ _) | (refine' storeA s (by rfl) (by rfl) (by k_asm) (by k_asm) rfl rfl rfl ?_; k_whole; intro _ _ _ _)); (try k_sweep))
          | ((with_reducible show wpAny _ _ (exec _ _) _ _ _); k_here; k_dflt (refine' anchorE s (by k_asm) rfl rfl rfl rfl ?_; k_whole; intro _); (try k_fold); walk1)
          | ((with_reducible show wpAny _ _ (exec _ _) _ _ _); k_here; k_fold; walk1)
          | walk1
          | (dsimp only; walk1)
          | (leave1; walk_say "STEP leave1"; try dsimp only)
          | fail "no step")
        unfold HeardHere
        have hne := (by assumption : ∀ (x : Addr) (ox : Obj), (x, ox) ∈ _ → (∀ q ∈ rest, q.1 ≠ x) → @Ne Nat _ x)
        have n1 := hne d o (by k_mem) rd
        have n2 := hne b o' (by k_mem) rb
        have n3 := hne 161 _ (by k_mem) r1
        have n4 := hne 168 _ (by k_mem) r2
        have tg' := (by with_reducible assumption : TabGood qualD _ (_ :: rest))
        refine' heardD B' ?FZX X' ?NZX T' XB TB D' rfl ?dZX ?uZX _ _ _ _ _ _ _ _ _ _ _ _ _ _ _ _ _ _ _ ?hf0X ?hocX ?hoc1X ?hoc2X ?hc1X ?hc2X ?hc3X ?hp1X _ ?hp2X _ _ _ _ ?ht1X ?ht2X ?ht3X ?ht4X _ _ _ ?hmX ?UX2 lod td hc hcn ?rX ?eX
        case FZX => k_asm
        case NZX => k_asm
        case dZX => ktr_room
        case uZX => ktr_units
        case hf0X => k_mem
        case hocX => k_mem
        case hoc1X => with_reducible assumption
        case hoc2X => with_reducible assumption
        case hc1X => rfl
        case hc2X => rfl
        case hc3X => rfl
        case hp1X => k_mem
        case hp2X => k_asm
        case ht1X => k_mem
        case ht2X => k_asm
        case ht3X => k_mem
        case ht4X => k_asm
        case hmX => k_mem
        case UX2 => k_updF
        case rX => exact fun e => absurd (gones_nil hg) e
        intro _ h₀' D1 t1 tc1 h1' tk1' z1 z2 z3 z4 z5
        have X0 := XB.keeps z2.stays
        have T0 := TB.keeps z2.stays
        repeat' (first
          | (k_unfold; (try dsimp only))
          | (k_end; wrow_close)
          | ((with_reducible show wpAny _ _ (exec (Stmt.For (Expr.Name _ _) (Expr.Name _ _) _ [] _) _) _ _ _); first | (with_reducible ((k_here; (rename Fr _ _ _ _ => lF'); (with_unfolding_all refine' For_invVF lF' ?k1 ?k2 ?_; (case k1 => exact rfl); (case k2 => exact rfl); k_whole)))) | ((k_here; (rename Fr _ _ _ _ => lF'); (with_unfolding_all refine' For_invVF lF' ?k1 ?k2 ?_; (case k1 => exact rfl); (case k2 => exact rfl); k_whole))))
          | ((with_reducible show wpAny _ _ (call (Value.builtin "dict.pop") _) _ _ _); first | (with_reducible ((k_here; k_dflt (refine' (fun a F N U T k c z1 => td_pop F N U T k c z1 a) (by exact PySem.F.args_dict_pop_2 _ _) (by k_asm) (by k_asm) (by with_reducible assumption) (by with_reducible assumption) (by with_reducible assumption) (by omega) ?_); intro _ _ _ _ _ _ _ _))) | ((k_here; k_dflt (refine' (fun a F N U T k c z1 => td_pop F N U T k c z1 a) (by exact PySem.F.args_dict_pop_2 _ _) (by k_asm) (by k_asm) (by with_reducible assumption) (by with_reducible assumption) (by with_reducible assumption) (by omega) ?_); intro _ _ _ _ _ _ _ _)))
          | ((with_reducible show wpAny _ _ (pyIter (Value.ref _)) _ _ _); first | (with_reducible ((k_here; k_dflt (refine heardHere ?_)))) | ((k_here; k_dflt (refine heardHere ?_))))
          | (first | (with_reducible ((k_here; (with_reducible show wpAny _ _ (getMethod (Value.ref _) (Str.ofString "pop") _) _ _ _); k_dflt (refine' td_getpop (by k_asm) (by k_mem) (by with_reducible assumption) (by with_reducible assumption) ?_)))) | ((k_here; (with_reducible show wpAny _ _ (getMethod (Value.ref _) (Str.ofString "pop") _) _ _ _); k_dflt (refine' td_getpop (by k_asm) (by k_mem) (by with_reducible assumption) (by with_reducible assumption) ?_))))
          | ((with_reducible show wpAny _ _ (exec (Stmt.Assign _ (Expr.ListComp _ _ _ _) _) _) _ _ _); first | (with_reducible ((k_here; k_dflt (refine assign_comp_dict (F₀ := by k_asm) (by rfl) (by with_unfolding_all rfl) (by decide) (by rfl) (by decide) (by rfl) (by rfl) (by rfl) ?_)))) | ((k_here; k_dflt (refine assign_comp_dict (F₀ := by k_asm) (by rfl) (by with_unfolding_all rfl) (by decide) (by rfl) (by decide) (by rfl) (by rfl) (by rfl) ?_))))
          | ((with_reducible show wpAny _ _ (eval (Expr.Lambda _ _ _ _) _) _ _ _); first | (with_reducible ((k_here; k_dflt (refine' lamD (by k_asm) (by k_asm) (by k_asm) (by with_reducible assumption) (by k_updF) (by with_reducible assumption) (by intro _ hq; repeat (first | exact hq | apply List.mem_cons_of_mem)) (by exact rfl) (by exact rfl) ?_); intro _ _ _ _ _ _ _ _ _ _ N' _ _ _ _ l1' _; (have z2' := lt_hd l1'); (try dsimp only at N')))) | ((k_here; k_dflt (refine' lamD (by k_asm) (by k_asm) (by k_asm) (by with_reducible assumption) (by k_updF) (by with_reducible assumption) (by intro _ hq; repeat (first | exact hq | apply List.mem_cons_of_mem)) (by exact rfl) (by exact rfl) ?_); intro _ _ _ _ _ _ _ _ _ _ N' _ _ _ _ l1' _; (have z2' := lt_hd l1'); (try dsimp only at N'))))
          | ((with_reducible show LeaveT _ _ _ _ _ _ _ _ _ _ _); first | (with_reducible ((k_dflt (refine' (fun F N T z1 => leaveT_ T F N z1) (by k_asm) (by k_asm) (by with_reducible assumption) ?_; k_whole); intro _ _ _ _ _ _))) | ((k_dflt (refine' (fun F N T z1 => leaveT_ T F N z1) (by k_asm) (by k_asm) (by with_reducible assumption) ?_; k_whole); intro _ _ _ _ _ _)))
          | ((with_reducible show wpAny _ _ (subscriptTail (Expr.Name _ _) (Expr.BinOp _ _ _ _) (Value.ref _) (Value.int _ _)) _ _ _); first | (with_reducible ((k_here; k_dflt (first | ((with_reducible show wpAny _ _ (subscriptTail _ _ _ (Value.int (Int.fmod _ 5) _)) _ _ _); refine' item_n5 (by k_asm) (by k_mem) (by with_reducible assumption) ?_ (by with_unfolding_all rfl) (by intro _; with_unfolding_all rfl); intro _ _ _ _) | ((with_reducible show wpAny _ _ (subscriptTail _ _ _ (Value.int (Int.fmod _ 8) _)) _ _ _); refine' item_txts (by k_asm) (by k_mem) (by with_reducible assumption) (by exact fmod_lo _ (by decide)) (by exact fmod_hi _ (by decide)) ?_ (by with_unfolding_all rfl) (by intro _; with_unfolding_all rfl); intro _ _))))) | ((k_here; k_dflt (first | ((with_reducible show wpAny _ _ (subscriptTail _ _ _ (Value.int (Int.fmod _ 5) _)) _ _ _); refine' item_n5 (by k_asm) (by k_mem) (by with_reducible assumption) ?_ (by with_unfolding_all rfl) (by intro _; with_unfolding_all rfl); intro _ _ _ _) | ((with_reducible show wpAny _ _ (subscriptTail _ _ _ (Value.int (Int.fmod _ 8) _)) _ _ _); refine' item_txts (by k_asm) (by k_mem) (by with_reducible assumption) (by exact fmod_lo _ (by decide)) (by exact fmod_hi _ (by decide)) ?_ (by with_unfolding_all rfl) (by intro _; with_unfolding_all rfl); intro _ _)))))
          | ((with_reducible show wpAny _ _ (subscriptTail (Expr.Call (Expr.Name _ _) [] [] _) (Expr.BinOp _ _ _ _) (Value.ref _) (Value.int _ _)) _ _ _); first | (with_reducible ((k_here; k_dflt (refine kba_turn (value' := PySem.Expr.Name (PySem.Str.ofString "_") ⟨0, 0, 0, 0⟩) (fun _ => rfl) ?_)))) | ((k_here; k_dflt (refine kba_turn (value' := PySem.Expr.Name (PySem.Str.ofString "_") ⟨0, 0, 0, 0⟩) (fun _ => rfl) ?_))))
          | ((with_reducible show wpAny _ _ (call (Value.ref _) _) _ _ _); first | (with_reducible ((k_here; k_dflt (first | ((with_reducible show wpAny _ _ (call (Value.ref 138) _) _ _ _); refine' law_numbers_spec (by k_asm) (by k_asm) (by k_asm) (by k_asm) (by k_asm) (by rfl) (by first | exact room1 (by with_reducible assumption) (by decide) | ktr_room) (by first | exact units1 (by with_reducible assumption) (by decide) | ktr_units) ?_; intro _ _ _ _ _ _ _ _ l1'; (have l2' := lt_hd l1'); (try k_fold)) | ((with_reducible show wpAny _ _ (call (Value.ref 145) _) _ _ _); refine heardHere ?_))))) | ((k_here; k_dflt (first | ((with_reducible show wpAny _ _ (call (Value.ref 138) _) _ _ _); refine' law_numbers_spec (by k_asm) (by k_asm) (by k_asm) (by k_asm) (by k_asm) (by rfl) (by first | exact room1 (by with_reducible assumption) (by decide) | ktr_room) (by first | exact units1 (by with_reducible assumption) (by decide) | ktr_units) ?_; intro _ _ _ _ _ _ _ _ l1'; (have l2' := lt_hd l1'); (try k_fold)) | ((with_reducible show wpAny _ _ (call (Value.ref 145) _) _ _ _); refine heardHere ?_)))))
          | (first | (with_reducible ((k_here; (with_reducible show wpAny _ _ (eval (Expr.Call (Expr.Name _ _) _ [] _) _) _ _ _); k_dflt (refine Call_ ?_)))) | ((k_here; (with_reducible show wpAny _ _ (eval (Expr.Call (Expr.Name _ _) _ [] _) _) _ _ _); k_dflt (refine Call_ ?_))))
          | ((with_reducible show wpAny _ _ (callWith _ (Value.ref _) _ _ _) _ _ _); first | (with_reducible ((k_here; k_dflt (refine' callWith_K (by k_asm) (by k_is) ?_; k_whole)))) | ((k_here; k_dflt (refine' callWith_K (by k_asm) (by k_is) ?_; k_whole))))
          | ((with_reducible show wpAny _ _ (storeName _ _ _) _ _ _); first | (with_reducible ((k_here; k_dflt (refine' (fun a b F N c U d z1 => storeX_C F N c U d z1 a b) (by rfl) (by rfl) (by k_asm) (by k_asm) (by rfl) (by k_updF) (by k_asm) ?_; k_whole); intro _ _ _ N' _; (try dsimp only at N')))) | ((k_here; k_dflt (refine' (fun a b F N c U d z1 => storeX_C F N c U d z1 a b) (by rfl) (by rfl) (by k_asm) (by k_asm) (by rfl) (by k_updF) (by k_asm) ?_; k_whole); intro _ _ _ N' _; (try dsimp only at N'))))
          | ((with_reducible show wpAny _ _ (storeName _ _ _) _ _ _); k_here; k_dflt (first | (refine' storeAI s (by rfl) (by rfl) (by k_asm) (by k_asm) rfl rfl rfl ?_; k_whole; intro _ _ _ _ _) | (refine' storeAS s (by rfl) (by rfl) (by k_asm) (by k_asm) rfl rfl rfl ?_; k_whole; intro _ _ _ _ _) | (refine' storeA s (by rfl) (by rfl) (by k_asm) (by k_asm) rfl rfl rfl ?_; k_whole; intro _ _ _ _)); (try k_sweep))
          | ((with_reducible show wpAny _ _ (exec _ _) _ _ _); k_here; k_dflt (refine' anchorE s (by k_asm) rfl rfl rfl rfl ?_; k_whole; intro _); (try k_fold); walk1)
          | ((with_reducible show wpAny _ _ (exec _ _) _ _ _); k_here; k_fold; walk1)
          | walk1
          | (dsimp only; walk1)
          | (leave1; walk_say "STEP leave1"; try dsimp only)
          | fail "no step")
        rename_i zT zB zD zF zN
        exact ret _ o o' ps _ (_ :: rest) c _ _ zT zB zD zF (zN.perm (List.forall_mem_cons.mpr ⟨by k_mem, List.forall_mem_cons.mpr ⟨by k_mem, List.forall_mem_cons.mpr ⟨by k_mem, List.forall_mem_cons.mpr ⟨by k_mem, List.forall_mem_cons.mpr ⟨by k_mem, fun q hq => by repeat (first | exact hq | apply List.mem_cons_of_mem)⟩⟩⟩⟩⟩)) ⟨td, TP, lod, lob, db, d1, d2, b1, b2, List.forall_mem_cons.mpr ⟨n1, rd⟩, List.forall_mem_cons.mpr ⟨n2, rb⟩, List.forall_mem_cons.mpr ⟨n3, r1⟩, List.forall_mem_cons.mpr ⟨n4, r2⟩, te.sub (fun q hq => .tail _ hq), tg'⟩ I (fun q hq => .tail _ hq)
    · unfold HeardHere
      refine' iter_pops (d := b) ?hhY ?hlY ?hiY ?FY ?NY ?UY ?TY ?nY ?sY ?tuY ?dnY
      case hhY => rfl
      case FY => k_asm
      case NY => k_asm
      case UY => k_updF
      case hlY => intro _; k_mem
      case TY => with_reducible exact tb
      case hiY => with_reducible exact hy
      case nY => exact gones_nodup hcn
      case sY => exact fun _ h => gones_has h
      case tuY =>
        intro n' t' o' c' h' tk' own' hn' hs' hc' TP U' hm' F' N'
        repeat' (first
          | (k_unfold; (try dsimp only))
          | (k_end; wrow_close)
          | ((with_reducible show wpAny _ _ (exec (Stmt.For (Expr.Name _ _) (Expr.Name _ _) _ [] _) _) _ _ _); first | (with_reducible ((k_here; (rename Fr _ _ _ _ => lF'); (with_unfolding_all refine' For_invVF lF' ?k1 ?k2 ?_; (case k1 => exact rfl); (case k2 => exact rfl); k_whole)))) | ((k_here; (rename Fr _ _ _ _ => lF'); (with_unfolding_all refine' For_invVF lF' ?k1 ?k2 ?_; (case k1 => exact rfl); (case k2 => exact rfl); k_whole))))
          | ((with_reducible show wpAny _ _ (call (Value.builtin "dict.pop") _) _ _ _); first | (with_reducible ((k_here; k_dflt (refine' (fun a F N U T k c z1 => td_pop F N U T k c z1 a) (by exact PySem.F.args_dict_pop_2 _ _) (by k_asm) (by k_asm) (by with_reducible assumption) (by with_reducible assumption) (by with_reducible assumption) (by omega) ?_); intro _ _ _ _ _ _ _ _))) | ((k_here; k_dflt (refine' (fun a F N U T k c z1 => td_pop F N U T k c z1 a) (by exact PySem.F.args_dict_pop_2 _ _) (by k_asm) (by k_asm) (by with_reducible assumption) (by with_reducible assumption) (by with_reducible assumption) (by omega) ?_); intro _ _ _ _ _ _ _ _)))
          | ((with_reducible show wpAny _ _ (pyIter (Value.ref _)) _ _ _); first | (with_reducible ((k_here; k_dflt (refine heardHere ?_)))) | ((k_here; k_dflt (refine heardHere ?_))))
          | (first | (with_reducible ((k_here; (with_reducible show wpAny _ _ (getMethod (Value.ref _) (Str.ofString "pop") _) _ _ _); k_dflt (refine' td_getpop (by k_asm) (by k_mem) (by with_reducible assumption) (by with_reducible assumption) ?_)))) | ((k_here; (with_reducible show wpAny _ _ (getMethod (Value.ref _) (Str.ofString "pop") _) _ _ _); k_dflt (refine' td_getpop (by k_asm) (by k_mem) (by with_reducible assumption) (by with_reducible assumption) ?_))))
          | ((with_reducible show wpAny _ _ (exec (Stmt.Assign _ (Expr.ListComp _ _ _ _) _) _) _ _ _); first | (with_reducible ((k_here; k_dflt (refine assign_comp_dict (F₀ := by k_asm) (by rfl) (by with_unfolding_all rfl) (by decide) (by rfl) (by decide) (by rfl) (by rfl) (by rfl) ?_)))) | ((k_here; k_dflt (refine assign_comp_dict (F₀ := by k_asm) (by rfl) (by with_unfolding_all rfl) (by decide) (by rfl) (by decide) (by rfl) (by rfl) (by rfl) ?_))))
          | ((with_reducible show wpAny _ _ (eval (Expr.Lambda _ _ _ _) _) _ _ _); first | (with_reducible ((k_here; k_dflt (refine' lamD (by k_asm) (by k_asm) (by k_asm) (by with_reducible assumption) (by k_updF) (by with_reducible assumption) (by intro _ hq; repeat (first | exact hq | apply List.mem_cons_of_mem)) (by exact rfl) (by exact rfl) ?_); intro _ _ _ _ _ _ _ _ _ _ N' _ _ _ _ l1' _; (have z2' := lt_hd l1'); (try dsimp only at N')))) | ((k_here; k_dflt (refine' lamD (by k_asm) (by k_asm) (by k_asm) (by with_reducible assumption) (by k_updF) (by with_reducible assumption) (by intro _ hq; repeat (first | exact hq | apply List.mem_cons_of_mem)) (by exact rfl) (by exact rfl) ?_); intro _ _ _ _ _ _ _ _ _ _ N' _ _ _ _ l1' _; (have z2' := lt_hd l1'); (try dsimp only at N'))))
          | ((with_reducible show LeaveT _ _ _ _ _ _ _ _ _ _ _); first | (with_reducible ((k_dflt (refine' (fun F N T z1 => leaveT_ T F N z1) (by k_asm) (by k_asm) (by with_reducible assumption) ?_; k_whole); intro _ _ _ _ _ _))) | ((k_dflt (refine' (fun F N T z1 => leaveT_ T F N z1) (by k_asm) (by k_asm) (by with_reducible assumption) ?_; k_whole); intro _ _ _ _ _ _)))
          | ((with_reducible show wpAny _ _ (subscriptTail (Expr.Name _ _) (Expr.BinOp _ _ _ _) (Value.ref _) (Value.int _ _)) _ _ _); first | (with_reducible ((k_here; k_dflt (first | ((with_reducible show wpAny _ _ (subscriptTail _ _ _ (Value.int (Int.fmod _ 5) _)) _ _ _); refine' item_n5 (by k_asm) (by k_mem) (by with_reducible assumption) ?_ (by with_unfolding_all rfl) (by intro _; with_unfolding_all rfl); intro _ _ _ _) | ((with_reducible show wpAny _ _ (subscriptTail _ _ _ (Value.int (Int.fmod _ 8) _)) _ _ _); refine' item_txts (by k_asm) (by k_mem) (by with_reducible assumption) (by exact fmod_lo _ (by decide)) (by exact fmod_hi _ (by decide)) ?_ (by with_unfolding_all rfl) (by intro _; with_unfolding_all rfl); intro _ _))))) | ((k_here; k_dflt (first | ((with_reducible show wpAny _ _ (subscriptTail _ _ _ (Value.int (Int.fmod _ 5) _)) _ _ _); refine' item_n5 (by k_asm) (by k_mem) (by with_reducible assumption) ?_ (by with_unfolding_all rfl) (by intro _; with_unfolding_all rfl); intro _ _ _ _) | ((with_reducible show wpAny _ _ (subscriptTail _ _ _ (Value.int (Int.fmod _ 8) _)) _ _ _); refine' item_txts (by k_asm) (by k_mem) (by with_reducible assumption) (by exact fmod_lo _ (by decide)) (by exact fmod_hi _ (by decide)) ?_ (by with_unfolding_all rfl) (by intro _; with_unfolding_all rfl); intro _ _)))))
          | ((with_reducible show wpAny _ _ (subscriptTail (Expr.Call (Expr.Name _ _) [] [] _) (Expr.BinOp _ _ _ _) (Value.ref _) (Value.int _ _)) _ _ _); first | (with_reducible ((k_here; k_dflt (refine kba_turn (value' := PySem.Expr.Name (PySem.Str.ofString "_") ⟨0, 0, 0, 0⟩) (fun _ => rfl) ?_)))) | ((k_here; k_dflt (refine kba_turn (value' := PySem.Expr.Name (PySem.Str.ofString "_") ⟨0, 0, 0, 0⟩) (fun _ => rfl) ?_))))
          | ((with_reducible show wpAny _ _ (call (Value.ref _) _) _ _ _); first | (with_reducible ((k_here; k_dflt (first | ((with_reducible show wpAny _ _ (call (Value.ref 138) _) _ _ _); refine' law_numbers_spec (by k_asm) (by k_asm) (by k_asm) (by k_asm) (by k_asm) (by rfl) (by first | exact room1 (by with_reducible assumption) (by decide) | ktr_room) (by first | exact units1 (by with_reducible assumption) (by decide) | ktr_units) ?_; intro _ _ _ _ _ _ _ _ l1'; (have l2' := lt_hd l1'); (try k_fold)) | ((with_reducible show wpAny _ _ (call (Value.ref 145) _) _ _ _); refine heardHere ?_))))) | ((k_here; k_dflt (first | ((with_reducible show wpAny _ _ (call (Value.ref 138) _) _ _ _); refine' law_numbers_spec (by k_asm) (by k_asm) (by k_asm) (by k_asm) (by k_asm) (by rfl) (by first | exact room1 (by with_reducible assumption) (by decide) | ktr_room) (by first | exact units1 (by with_reducible assumption) (by decide) | ktr_units) ?_; intro _ _ _ _ _ _ _ _ l1'; (have l2' := lt_hd l1'); (try k_fold)) | ((with_reducible show wpAny _ _ (call (Value.ref 145) _) _ _ _); refine heardHere ?_)))))
          | (first | (with_reducible ((k_here; (with_reducible show wpAny _ _ (eval (Expr.Call (Expr.Name _ _) _ [] _) _) _ _ _); k_dflt (refine Call_ ?_)))) | ((k_here; (with_reducible show wpAny _ _ (eval (Expr.Call (Expr.Name _ _) _ [] _) _) _ _ _); k_dflt (refine Call_ ?_))))
          | ((with_reducible show wpAny _ _ (callWith _ (Value.ref _) _ _ _) _ _ _); first | (with_reducible ((k_here; k_dflt (refine' callWith_K (by k_asm) (by k_is) ?_; k_whole)))) | ((k_here; k_dflt (refine' callWith_K (by k_asm) (by k_is) ?_; k_whole))))
          | ((with_reducible show wpAny _ _ (storeName _ _ _) _ _ _); first | (with_reducible ((k_here; k_dflt (refine' (fun a b F N c U d z1 => storeX_C F N c U d z1 a b) (by rfl) (by rfl) (by k_asm) (by k_asm) (by rfl) (by k_updF) (by k_asm) ?_; k_whole); intro _ _ _ N' _; (try dsimp only at N')))) | ((k_here; k_dflt (refine' (fun a b F N c U d z1 => storeX_C F N c U d z1 a b) (by rfl) (by rfl) (by k_asm) (by k_asm) (by rfl) (by k_updF) (by k_asm) ?_; k_whole); intro _ _ _ N' _; (try dsimp only at N'))))
          | ((with_reducible show wpAny _ _ (storeName _ _ _) _ _ _); k_here; k_dflt (first | (refine' storeAI s (by rfl) (by rfl) (by k_asm) (by k_asm) rfl rfl rfl ?_; k_whole; intro _ _ _ _ _) | (refine' storeAS s (by rfl) (by rfl) (by k_asm) (by k_asm) rfl rfl rfl ?_; k_whole; intro _ _ _ _ _) | (refine' storeA s (by rfl) (by rfl) (by k_asm) (by k_asm) rfl rfl rfl ?_; k_whole; intro _ _ _ _)); (try k_sweep))
          | ((with_reducible show wpAny _ _ (exec _ _) _ _ _); k_here; k_dflt (refine' anchorE s (by k_asm) rfl rfl rfl rfl ?_; k_whole; intro _); (try k_fold); walk1)
          | ((with_reducible show wpAny _ _ (exec _ _) _ _ _); k_here; k_fold; walk1)
          | walk1
          | (dsimp only; walk1)
          | (leave1; walk_say "STEP leave1"; try dsimp only)
          | fail "no step")
        exact ⟨rfl, _, _, _, rfl, by first | with_reducible assumption | assumption, by first | with_reducible assumption | assumption, by first | with_reducible assumption | assumption⟩
      case dnY =>
        intro o' q' h' tk' TP F' N'
        have hg : ¬ gones c i j = [] := of_decide_eq_false (by with_reducible assumption)
        rw [gones_del] at TP
        repeat' (first
          | (k_unfold; (try dsimp only))
          | (k_end; wrow_close)
          | ((with_reducible show wpAny _ _ (exec (Stmt.For (Expr.Name _ _) (Expr.Name _ _) _ [] _) _) _ _ _); first | (with_reducible ((k_here; (rename Fr _ _ _ _ => lF'); (with_unfolding_all refine' For_invVF lF' ?k1 ?k2 ?_; (case k1 => exact rfl); (case k2 => exact rfl); k_whole)))) | ((k_here; (rename Fr _ _ _ _ => lF'); (with_unfolding_all refine' For_invVF lF' ?k1 ?k2 ?_; (case k1 => exact rfl); (case k2 => exact rfl); k_whole))))
          | ((with_reducible show wpAny _ _ (call (Value.builtin "dict.pop") _) _ _ _); first | (with_reducible ((k_here; k_dflt (refine' (fun a F N U T k c z1 => td_pop F N U T k c z1 a) (by exact PySem.F.args_dict_pop_2 _ _) (by k_asm) (by k_asm) (by with_reducible assumption) (by with_reducible assumption) (by with_reducible assumption) (by omega) ?_); intro _ _ _ _ _ _ _ _))) | ((k_here; k_dflt (refine' (fun a F N U T k c z1 => td_pop F N U T k c z1 a) (by exact PySem.F.args_dict_pop_2 _ _) (by k_asm) (by k_asm) (by with_reducible assumption) (by with_reducible assumption) (by with_reducible assumption) (by omega) ?_); intro _ _ _ _ _ _ _ _)))
          | ((with_reducible show wpAny _ _ (pyIter (Value.ref _)) _ _ _); first | (with_reducible ((k_here; k_dflt (refine heardHere ?_)))) | ((k_here; k_dflt (refine heardHere ?_))))
          | (first | (with_reducible ((k_here; (with_reducible show wpAny _ _ (getMethod (Value.ref _) (Str.ofString "pop") _) _ _ _); k_dflt (refine' td_getpop (by k_asm) (by k_mem) (by with_reducible assumption) (by with_reducible assumption) ?_)))) | ((k_here; (with_reducible show wpAny _ _ (getMethod (Value.ref _) (Str.ofString "pop") _) _ _ _); k_dflt (refine' td_getpop (by k_asm) (by k_mem) (by with_reducible assumption) (by with_reducible assumption) ?_))))
          | ((with_reducible show wpAny _ _ (exec (Stmt.Assign _ (Expr.ListComp _ _ _ _) _) _) _ _ _); first | (with_reducible ((k_here; k_dflt (refine assign_comp_dict (F₀ := by k_asm) (by rfl) (by with_unfolding_all rfl) (by decide) (by rfl) (by decide) (by rfl) (by rfl) (by rfl) ?_)))) | ((k_here; k_dflt (refine assign_comp_dict (F₀ := by k_asm) (by rfl) (by with_unfolding_all rfl) (by decide) (by rfl) (by decide) (by rfl) (by rfl) (by rfl) ?_))))
          | ((with_reducible show wpAny _ _ (eval (Expr.Lambda _ _ _ _) _) _ _ _); first | (with_reducible ((k_here; k_dflt (refine' lamD (by k_asm) (by k_asm) (by k_asm) (by with_reducible assumption) (by k_updF) (by with_reducible assumption) (by intro _ hq; repeat (first | exact hq | apply List.mem_cons_of_mem)) (by exact rfl) (by exact rfl) ?_); intro _ _ _ _ _ _ _ _ _ _ N' _ _ _ _ l1' _; (have z2' := lt_hd l1'); (try dsimp only at N')))) | ((k_here; k_dflt (refine' lamD (by k_asm) (by k_asm) (by k_asm) (by with_reducible assumption) (by k_updF) (by with_reducible assumption) (by intro _ hq; repeat (first | exact hq | apply List.mem_cons_of_mem)) (by exact rfl) (by exact rfl) ?_); intro _ _ _ _ _ _ _ _ _ _ N' _ _ _ _ l1' _; (have z2' := lt_hd l1'); (try dsimp only at N'))))
          | ((with_reducible show LeaveT _ _ _ _ _ _ _ _ _ _ _); first | (with_reducible ((k_dflt (refine' (fun F N T z1 => leaveT_ T F N z1) (by k_asm) (by k_asm) (by with_reducible assumption) ?_; k_whole); intro _ _ _ _ _ _))) | ((k_dflt (refine' (fun F N T z1 => leaveT_ T F N z1) (by k_asm) (by k_asm) (by with_reducible assumption) ?_; k_whole); intro _ _ _ _ _ _)))
          | ((with_reducible show wpAny _ _ (subscriptTail (Expr.Name _ _) (Expr.BinOp _ _ _ _) (Value.ref _) (Value.int _ _)) _ _ _); first | (with_reducible ((k_here; k_dflt (first | ((with_reducible show wpAny _ _ (subscriptTail _ _ _ (Value.int (Int.fmod _ 5) _)) _ _ _); refine' item_n5 (by k_asm) (by k_mem) (by with_reducible assumption) ?_ (by with_unfolding_all rfl) (by intro _; with_unfolding_all rfl); intro _ _ _ _) | ((with_reducible show wpAny _ _ (subscriptTail _ _ _ (Value.int (Int.fmod _ 8) _)) _ _ _); refine' item_txts (by k_asm) (by k_mem) (by with_reducible assumption) (by exact fmod_lo _ (by decide)) (by exact fmod_hi _ (by decide)) ?_ (by with_unfolding_all rfl) (by intro _; with_unfolding_all rfl); intro _ _))))) | ((k_here; k_dflt (first | ((with_reducible show wpAny _ _ (subscriptTail _ _ _ (Value.int (Int.fmod _ 5) _)) _ _ _); refine' item_n5 (by k_asm) (by k_mem) (by with_reducible assumption) ?_ (by with_unfolding_all rfl) (by intro _; with_unfolding_all rfl); intro _ _ _ _) | ((with_reducible show wpAny _ _ (subscriptTail _ _ _ (Value.int (Int.fmod _ 8) _)) _ _ _); refine' item_txts (by k_asm) (by k_mem) (by with_reducible assumption) (by exact fmod_lo _ (by decide)) (by exact fmod_hi _ (by decide)) ?_ (by with_unfolding_all rfl) (by intro _; with_unfolding_all rfl); intro _ _)))))
          | ((with_reducible show wpAny _ _ (subscriptTail (Expr.Call (Expr.Name _ _) [] [] _) (Expr.BinOp _ _ _ _) (Value.ref _) (Value.int _ _)) _ _ _); first | (with_reducible ((k_here; k_dflt (refine kba_turn (value' := PySem.Expr.Name (PySem.Str.ofString "_") ⟨0, 0, 0, 0⟩) (fun _ => rfl) ?_)))) | ((k_here; k_dflt (refine kba_turn (value' := PySem.Expr.Name (PySem.Str.ofString "_") ⟨0, 0, 0, 0⟩) (fun _ => rfl) ?_))))
          | ((with_reducible show wpAny _ _ (call (Value.ref _) _) _ _ _); first | (with_reducible ((k_here; k_dflt (first | ((with_reducible show wpAny _ _ (call (Value.ref 138) _) _ _ _); refine' law_numbers_spec (by k_asm) (by k_asm) (by k_asm) (by k_asm) (by k_asm) (by rfl) (by first | exact room1 (by with_reducible assumption) (by decide) | ktr_room) (by first | exact units1 (by with_reducible assumption) (by decide) | ktr_units) ?_; intro _ _ _ _ _ _ _ _ l1'; (have l2' := lt_hd l1'); (try k_fold)) | ((with_reducible show wpAny _ _ (call (Value.ref 145) _) _ _ _); refine heardHere ?_))))) | ((k_here; k_dflt (first | ((with_reducible show wpAny _ _ (call (Value.ref 138) _) _ _ _); refine' law_numbers_spec (by k_asm) (by k_asm) (by k_asm) (by k_asm) (by k_asm) (by rfl) (by first | exact room1 (by with_reducible assumption) (by decide) | ktr_room) (by first | exact units1 (by with_reducible assumption) (by decide) | ktr_units) ?_; intro _ _ _ _ _ _ _ _ l1'; (have l2' := lt_hd l1'); (try k_fold)) | ((with_reducible show wpAny _ _ (call (Value.ref 145) _) _ _ _); refine heardHere ?_)))))
          | (first | (with_reducible ((k_here; (with_reducible show wpAny _ _ (eval (Expr.Call (Expr.Name _ _) _ [] _) _) _ _ _); k_dflt (refine Call_ ?_)))) | ((k_here; (with_reducible show wpAny _ _ (eval (Expr.Call (Expr.Name _ _) _ [] _) _) _ _ _); k_dflt (refine Call_ ?_))))
          | ((with_reducible show wpAny _ _ (callWith _ (Value.ref _) _ _ _) _ _ _); first | (with_reducible ((k_here; k_dflt (refine' callWith_K (by k_asm) (by k_is) ?_; k_whole)))) | ((k_here; k_dflt (refine' callWith_K (by k_asm) (by k_is) ?_; k_whole))))
          | ((with_reducible show wpAny _ _ (storeName _ _ _) _ _ _); first | (with_reducible ((k_here; k_dflt (refine' (fun a b F N c U d z1 => storeX_C F N c U d z1 a b) (by rfl) (by rfl) (by k_asm) (by k_asm) (by rfl) (by k_updF) (by k_asm) ?_; k_whole); intro _ _ _ N' _; (try dsimp only at N')))) | ((k_here; k_dflt (refine' (fun a b F N c U d z1 => storeX_C F N c U d z1 a b) (by rfl) (by rfl) (by k_asm) (by k_asm) (by rfl) (by k_updF) (by k_asm) ?_; k_whole); intro _ _ _ N' _; (try dsimp only at N'))))
          | ((with_reducible show wpAny _ _ (storeName _ _ _) _ _ _); k_here; k_dflt (first | (refine' storeAI s (by rfl) (by rfl) (by k_asm) (by k_asm) rfl rfl rfl ?_; k_whole; intro _ _ _ _ _) | (refine' storeAS s (by rfl) (by rfl) (by k_asm) (by k_asm) rfl rfl rfl ?_; k_whole; intro _ _ _ _ _) | (refine' storeA s (by rfl) (by rfl) (by k_asm) (by k_asm) rfl rfl rfl ?_; k_whole; intro _ _ _ _)); (try k_sweep))
          | ((with_reducible show wpAny _ _ (exec _ _) _ _ _); k_here; k_dflt (refine' anchorE s (by k_asm) rfl rfl rfl rfl ?_; k_whole; intro _); (try k_fold); walk1)
          | ((with_reducible show wpAny _ _ (exec _ _) _ _ _); k_here; k_fold; walk1)
          | walk1
          | (dsimp only; walk1)
          | (leave1; walk_say "STEP leave1"; try dsimp only)
          | fail "no step")
        unfold HeardHere
        have hne := (by assumption : ∀ (x : Addr) (ox : Obj), (x, ox) ∈ _ → (∀ q ∈ rest, q.1 ≠ x) → @Ne Nat _ x)
        have n1 := hne d o (by k_mem) rd
        have n2 := hne b o' (by k_mem) rb
        have n3 := hne 161 _ (by k_mem) r1
        have n4 := hne 168 _ (by k_mem) r2
        have tg' := (by with_reducible assumption : TabGood qualD _ (_ :: rest))
        refine' heardD B' ?FZY X' ?NZY T' XB TB D' rfl ?dZY ?uZY _ _ _ _ _ _ _ _ _ _ _ _ _ _ _ _ _ _ _ ?hf0Y ?hocY ?hoc1Y ?hoc2Y ?hc1Y ?hc2Y ?hc3Y ?hp1Y _ ?hp2Y _ _ _ _ ?ht1Y ?ht2Y ?ht3Y ?ht4Y _ _ _ ?hmY ?UY2 lod td hc hcn ?rY ?eY
        case FZY => k_asm
        case NZY => k_asm
        case dZY => ktr_room
        case uZY => ktr_units
        case hf0Y => k_mem
        case hocY => k_mem
        case hoc1Y => with_reducible assumption
        case hoc2Y => with_reducible assumption
        case hc1Y => rfl
        case hc2Y => rfl
        case hc3Y => rfl
        case hp1Y => k_mem
        case hp2Y => k_asm
        case ht1Y => k_mem
        case ht2Y => k_asm
        case ht3Y => k_mem
        case ht4Y => k_asm
        case hmY => k_mem
        case UY2 => k_updF
        case eY => exact fun e => absurd e (gones_ne hg)
        intro _ o1 h₀' D1 t1 h1' tk1' TD1 z1 z2 z3 z4 z5
        (try dsimp only at z5)
        have X0 := XB.keeps z2.stays
        have T0 := TB.keeps z2.stays
        repeat' (first
          | (k_unfold; (try dsimp only))
          | (k_end; wrow_close)
          | ((with_reducible show wpAny _ _ (exec (Stmt.For (Expr.Name _ _) (Expr.Name _ _) _ [] _) _) _ _ _); first | (with_reducible ((k_here; (rename Fr _ _ _ _ => lF'); (with_unfolding_all refine' For_invVF lF' ?k1 ?k2 ?_; (case k1 => exact rfl); (case k2 => exact rfl); k_whole)))) | ((k_here; (rename Fr _ _ _ _ => lF'); (with_unfolding_all refine' For_invVF lF' ?k1 ?k2 ?_; (case k1 => exact rfl); (case k2 => exact rfl); k_whole))))
          | ((with_reducible show wpAny _ _ (call (Value.builtin "dict.pop") _) _ _ _); first | (with_reducible ((k_here; k_dflt (refine' (fun a F N U T k c z1 => td_pop F N U T k c z1 a) (by exact PySem.F.args_dict_pop_2 _ _) (by k_asm) (by k_asm) (by with_reducible assumption) (by with_reducible assumption) (by with_reducible assumption) (by omega) ?_); intro _ _ _ _ _ _ _ _))) | ((k_here; k_dflt (refine' (fun a F N U T k c z1 => td_pop F N U T k c z1 a) (by exact PySem.F.args_dict_pop_2 _ _) (by k_asm) (by k_asm) (by with_reducible assumption) (by with_reducible assumption) (by with_reducible assumption) (by omega) ?_); intro _ _ _ _ _ _ _ _)))
          | ((with_reducible show wpAny _ _ (pyIter (Value.ref _)) _ _ _); first | (with_reducible ((k_here; k_dflt (refine heardHere ?_)))) | ((k_here; k_dflt (refine heardHere ?_))))
          | (first | (with_reducible ((k_here; (with_reducible show wpAny _ _ (getMethod (Value.ref _) (Str.ofString "pop") _) _ _ _); k_dflt (refine' td_getpop (by k_asm) (by k_mem) (by with_reducible assumption) (by with_reducible assumption) ?_)))) | ((k_here; (with_reducible show wpAny _ _ (getMethod (Value.ref _) (Str.ofString "pop") _) _ _ _); k_dflt (refine' td_getpop (by k_asm) (by k_mem) (by with_reducible assumption) (by with_reducible assumption) ?_))))
          | ((with_reducible show wpAny _ _ (exec (Stmt.Assign _ (Expr.ListComp _ _ _ _) _) _) _ _ _); first | (with_reducible ((k_here; k_dflt (refine assign_comp_dict (F₀ := by k_asm) (by rfl) (by with_unfolding_all rfl) (by decide) (by rfl) (by decide) (by rfl) (by rfl) (by rfl) ?_)))) | ((k_here; k_dflt (refine assign_comp_dict (F₀ := by k_asm) (by rfl) (by with_unfolding_all rfl) (by decide) (by rfl) (by decide) (by rfl) (by rfl) (by rfl) ?_))))
          | ((with_reducible show wpAny _ _ (eval (Expr.Lambda _ _ _ _) _) _ _ _); first | (with_reducible ((k_here; k_dflt (refine' lamD (by k_asm) (by k_asm) (by k_asm) (by with_reducible assumption) (by k_updF) (by with_reducible assumption) (by intro _ hq; repeat (first | exact hq | apply List.mem_cons_of_mem)) (by exact rfl) (by exact rfl) ?_); intro _ _ _ _ _ _ _ _ _ _ N' _ _ _ _ l1' _; (have z2' := lt_hd l1'); (try dsimp only at N')))) | ((k_here; k_dflt (refine' lamD (by k_asm) (by k_asm) (by k_asm) (by with_reducible assumption) (by k_updF) (by with_reducible assumption) (by intro _ hq; repeat (first | exact hq | apply List.mem_cons_of_mem)) (by exact rfl) (by exact rfl) ?_); intro _ _ _ _ _ _ _ _ _ _ N' _ _ _ _ l1' _; (have z2' := lt_hd l1'); (try dsimp only at N'))))
          | ((with_reducible show LeaveT _ _ _ _ _ _ _ _ _ _ _); first | (with_reducible ((k_dflt (refine' (fun F N T z1 => leaveT_ T F N z1) (by k_asm) (by k_asm) (by with_reducible assumption) ?_; k_whole); intro _ _ _ _ _ _))) | ((k_dflt (refine' (fun F N T z1 => leaveT_ T F N z1) (by k_asm) (by k_asm) (by with_reducible assumption) ?_; k_whole); intro _ _ _ _ _ _)))
          | ((with_reducible show wpAny _ _ (subscriptTail (Expr.Name _ _) (Expr.BinOp _ _ _ _) (Value.ref _) (Value.int _ _)) _ _ _); first | (with_reducible ((k_here; k_dflt (first | ((with_reducible show wpAny _ _ (subscriptTail _ _ _ (Value.int (Int.fmod _ 5) _)) _ _ _); refine' item_n5 (by k_asm) (by k_mem) (by with_reducible assumption) ?_ (by with_unfolding_all rfl) (by intro _; with_unfolding_all rfl); intro _ _ _ _) | ((with_reducible show wpAny _ _ (subscriptTail _ _ _ (Value.int (Int.fmod _ 8) _)) _ _ _); refine' item_txts (by k_asm) (by k_mem) (by with_reducible assumption) (by exact fmod_lo _ (by decide)) (by exact fmod_hi _ (by decide)) ?_ (by with_unfolding_all rfl) (by intro _; with_unfolding_all rfl); intro _ _))))) | ((k_here; k_dflt (first | ((with_reducible show wpAny _ _ (subscriptTail _ _ _ (Value.int (Int.fmod _ 5) _)) _ _ _); refine' item_n5 (by k_asm) (by k_mem) (by with_reducible assumption) ?_ (by with_unfolding_all rfl) (by intro _; with_unfolding_all rfl); intro _ _ _ _) | ((with_reducible show wpAny _ _ (subscriptTail _ _ _ (Value.int (Int.fmod _ 8) _)) _ _ _); refine' item_txts (by k_asm) (by k_mem) (by with_reducible assumption) (by exact fmod_lo _ (by decide)) (by exact fmod_hi _ (by decide)) ?_ (by with_unfolding_all rfl) (by intro _; with_unfolding_all rfl); intro _ _)))))
          | ((with_reducible show wpAny _ _ (subscriptTail (Expr.Call (Expr.Name _ _) [] [] _) (Expr.BinOp _ _ _ _) (Value.ref _) (Value.int _ _)) _ _ _); first | (with_reducible ((k_here; k_dflt (refine kba_turn (value' := PySem.Expr.Name (PySem.Str.ofString "_") ⟨0, 0, 0, 0⟩) (fun _ => rfl) ?_)))) | ((k_here; k_dflt (refine kba_turn (value' := PySem.Expr.Name (PySem.Str.ofString "_") ⟨0, 0, 0, 0⟩) (fun _ => rfl) ?_))))
          | ((with_reducible show wpAny _ _ (call (Value.ref _) _) _ _ _); first | (with_reducible ((k_here; k_dflt (first | ((with_reducible show wpAny _ _ (call (Value.ref 138) _) _ _ _); refine' law_numbers_spec (by k_asm) (by k_asm) (by k_asm) (by k_asm) (by k_asm) (by rfl) (by first | exact room1 (by with_reducible assumption) (by decide) | ktr_room) (by first | exact units1 (by with_reducible assumption) (by decide) | ktr_units) ?_; intro _ _ _ _ _ _ _ _ l1'; (have l2' := lt_hd l1'); (try k_fold)) | ((with_reducible show wpAny _ _ (call (Value.ref 145) _) _ _ _); refine heardHere ?_))))) | ((k_here; k_dflt (first | ((with_reducible show wpAny _ _ (call (Value.ref 138) _) _ _ _); refine' law_numbers_spec (by k_asm) (by k_asm) (by k_asm) (by k_asm) (by k_asm) (by rfl) (by first | exact room1 (by with_reducible assumption) (by decide) | ktr_room) (by first | exact units1 (by with_reducible assumption) (by decide) | ktr_units) ?_; intro _ _ _ _ _ _ _ _ l1'; (have l2' := lt_hd l1'); (try k_fold)) | ((with_reducible show wpAny _ _ (call (Value.ref 145) _) _ _ _); refine heardHere ?_)))))
          | (first | (with_reducible ((k_here; (with_reducible show wpAny _ _ (eval (Expr.Call (Expr.Name _ _) _ [] _) _) _ _ _); k_dflt (refine Call_ ?_)))) | ((k_here; (with_reducible show wpAny _ _ (eval (Expr.Call (Expr.Name _ _) _ [] _) _) _ _ _); k_dflt (refine Call_ ?_))))
          | ((with_reducible show wpAny _ _ (callWith _ (Value.ref _) _ _ _) _ _ _); first | (with_reducible ((k_here; k_dflt (refine' callWith_K (by k_asm) (by k_is) ?_; k_whole)))) | ((k_here; k_dflt (refine' callWith_K (by k_asm) (by k_is) ?_; k_whole))))
          | ((with_reducible show wpAny _ _ (storeName _ _ _) _ _ _); first | (with_reducible ((k_here; k_dflt (refine' (fun a b F N c U d z1 => storeX_C F N c U d z1 a b) (by rfl) (by rfl) (by k_asm) (by k_asm) (by rfl) (by k_updF) (by k_asm) ?_; k_whole); intro _ _ _ N' _; (try dsimp only at N')))) | ((k_here; k_dflt (refine' (fun a b F N c U d z1 => storeX_C F N c U d z1 a b) (by rfl) (by rfl) (by k_asm) (by k_asm) (by rfl) (by k_updF) (by k_asm) ?_; k_whole); intro _ _ _ N' _; (try dsimp only at N'))))
          | ((with_reducible show wpAny _ _ (storeName _ _ _) _ _ _); k_here; k_dflt (first | (refine' storeAI s (by rfl) (by rfl) (by k_asm) (by k_asm) rfl rfl rfl ?_; k_whole; intro _ _ _ _ _) | (refine' storeAS s (by rfl) (by rfl) (by k_asm) (by k_asm) rfl rfl rfl ?_; k_whole; intro _ _ _ _ _) | (refine' storeA s (by rfl) (by rfl) (by k_asm) (by k_asm) rfl rfl rfl ?_; k_whole; intro _ _ _ _)); (try k_sweep))
          | ((with_reducible show wpAny _ _ (exec _ _) _ _ _); k_here; k_dflt (refine' anchorE s (by k_asm) rfl rfl rfl rfl ?_; k_whole; intro _); (try k_fold); walk1)
          | ((with_reducible show wpAny _ _ (exec _ _) _ _ _); k_here; k_fold; walk1)
          | walk1
          | (dsimp only; walk1)
          | (leave1; walk_say "STEP leave1"; try dsimp only)
          | fail "no step")
        rename_i zT zB zD zF zN
        exact ret _ o1 o' ps _ (_ :: rest) (sDelAll c (within c i j)) _ _ zT zB zD zF (zN.perm (List.forall_mem_cons.mpr ⟨by k_mem, List.forall_mem_cons.mpr ⟨by k_mem, List.forall_mem_cons.mpr ⟨by k_mem, List.forall_mem_cons.mpr ⟨by k_mem, List.forall_mem_cons.mpr ⟨by k_mem, fun q hq => by repeat (first | exact hq | apply List.mem_cons_of_mem)⟩⟩⟩⟩⟩)) ⟨TD1, TP, lod, lob, db, d1, d2, b1, b2, List.forall_mem_cons.mpr ⟨n1, rd⟩, List.forall_mem_cons.mpr ⟨n2, rb⟩, List.forall_mem_cons.mpr ⟨n3, r1⟩, List.forall_mem_cons.mpr ⟨n4, r2⟩, te.sub (fun q hq => .tail _ hq), tg'⟩ (inv_delAll I) (fun q hq => .tail _ hq)
end
end Mine
end

/-! part P23C -/
section
open PySem PySem.W PyProof.Rows PyProof.V
open PySem.Spec PySem.Calls
set_option maxRecDepth 100000
set_option linter.unusedVariables false
namespace Mine
theorem fresh_P23C : True := by
  w_top off
  trivial
theorem ab1 {c : Bk} {i : Int} (h : sHas c i = true) (e : ((Str.ofString (toString i) ++ if sHas c i = true then Str.ofString "*" else Str.ofString " ") != Str.ofString (toString i) ++ Str.ofString "*") = true) : False := by
  rw [h] at e
  simp at e
theorem ab2 {c : Bk} {i : Int} (h : sHas c i = false) (e : ((Str.ofString (toString i) ++ if sHas c i = true then Str.ofString "*" else Str.ofString " ") != Str.ofString (toString i) ++ Str.ofString " ") = true) : False := by
  rw [h] at e
  simp at e
theorem nsp1 {x y : Str} (h : (x != y) = true) (e : (x == y) = true) : False := by
  simp only [bne, e] at h
  exact absurd h (by decide)
theorem nsp2 {x y : Str} (h : (x != y) = false) (e : (x == y) = false) : False := by
  simp only [bne, e] at h
  exact absurd h (by decide)
theorem beqF {x : Bool} (e : (x == x) = false) : False := by
  rw [beq_self_eq_true] at e
  exact absurd e (by decide)
theorem tb1 {x : Bool} (e : (true == x) = false) (h : x = true) : False := by
  subst h
  exact absurd e (by decide)
theorem tb2 {x y : Bool} (e : (x == y) = false) (h : x = false) (k : y = false) : False := by
  subst h
  subst k
  exact absurd e (by decide)
theorem strip_kept {n : Int} (h : (Txt.stripChars (txtAt (Int.fmod n 8)) (Str.ofString " ") != Str.ofString "") = true) : Txt.stripChars (txtAt (Int.fmod n 8)) (Str.ofString " ") ∈ keptTexts := by
  rw [show txtAt (Int.fmod n 8) = tX (Int.fmod n 8).toNat by unfold txtAt; rfl] at h ⊢
  exact (facts_text _ (i8 n) h).2.2
def EndC {α : Type} (g : Heap) (L : Addr) (s₀ : Shared) (P : α → Prop) (mk : α → Str → Option Value) (nw : α → List (Addr × Obj)) (f : Flow) (s' : Shared) : Prop :=
  f = .next ∧ ∃ x h' t', P x ∧ s' = ⟨h', s₀.gens, s₀.drawn, t', s₀.os⟩ ∧ Fr g L h' (mk x) ∧ News g L h' (nw x)
theorem cutC {α : Type} {M : Model} {A : Around} {env : Env} {E : Value → Shared → Prop} {Q : Flow → Shared → Prop} {s : Shared} {g : Heap} {L b : Addr} {ob : Obj} {m : Str → Option Value} {news : List (Addr × Obj)} {u : Obj → List (Addr × Obj)} {l : List Stmt}
    (s₀ : Shared) (n : Nat) (mk : (Str → Option Value) → α → Str → Option Value) (oo : α → Obj) (P : α → Prop) (F : Fr g L s.heap m) (N : News g L s.heap news) (U : UpdF b ob news u)
    (h1 : wpAny M A (execs (l.take n) env) (EndC g L s₀ P (mk m) (fun x => u (oo x))) E s)
    (h2 : ∀ x h' t', P x → Fr g L h' (mk m x) → News g L h' (u (oo x)) → wpAny M A (execs (l.drop n) env) Q E ⟨h', s₀.gens, s₀.drawn, t', s₀.os⟩) :
    wpAny M A (execs l env) Q E s := by
  have := execs_cut (EndC g L s₀ P (mk m) (fun x => u (oo x))) (l.drop n) (Q := Q) (fun s' hr => by
    obtain ⟨_, x, h', t', hP, rfl, F', N'⟩ := hr
    exact h2 x h' t' hP F' N') (fun f s' hf hr => absurd hr.1 hf) (l.take n) h1
  rw [List.take_append_drop] at this
  exact this
theorem EndC.fin {α : Type} {g : Heap} {L : Addr} {s₀ s' : Shared} {P : α → Prop} {mk : α → Str → Option Value} {nw : α → List (Addr × Obj)} {h' : Heap} {t' : Nat} (x : α) (hP : P x) (F : Fr g L h' (mk x)) (N : News g L h' (nw x)) (e : s' = ⟨h', s₀.gens, s₀.drawn, t', s₀.os⟩) : EndC g L s₀ P mk nw .next s' := ⟨rfl, x, h', t', hP, e, F, N⟩
section
variable {w : World} {p : Program} {loose : List Str} {mean : ExcName → Option Value} {mg mb : Str → Option Value} {dp un : Nat} {gd : Option (List Code)} {cn : Str} {cs : Scope} {a : Addr} {ccd : Value} {cl : List (Str × Addr)} {outer : List Env} {A₀ : Around} {base h₀ : Heap} {L : Addr} {m : Str → Option Value} {news : List (Addr × Obj)} {s : Shared}
    {Q E : Value → Shared → Prop}
local macro_rules | `(tactic| k_mem) => `(tactic| first | (with_reducible assumption) | exact List.mem_cons_self | (refine List.mem_cons_of_mem _ ?_; k_mem))
local macro_rules | `(tactic| k_all) => `(tactic| first | (with_reducible assumption) | exact List.forall_mem_nil _ | (refine List.forall_mem_cons.mpr ⟨?_, ?_⟩; (focus k_ne); k_all))
set_option maxHeartbeats 8000000 in
theorem law_deedC (B : Below A₀ base outer h₀) (F : Fr h₀ L s.heap m) (X : (hd.heap_39 w.params).In h₀) (T : Top p loose mean mg mb h₀) (XB : (hd.heap_39 w.params).In base) (TB : Top p loose mean mg mb base) (D : KtsDicts (frs outer) h₀) (hk : cs.kind = .function) (hd : dp + 120 < recursionLimit) (hu : un + 1200 < cLine)
   (d : Addr) (o : Obj) (b : Addr) (ob : Obj) (ps qs : Array Value) (rest : List (Addr × Obj)) (c : Bk) (N : News h₀ L s.heap (ledOf d o b ob ps qs rest)) (K : LedOk w d o b ob ps qs rest c) (I : Inv c) (n : Int) (tn : Tok) (h0 : 0 ≤ n) (hform : 2 < Int.fmod n 4)
   (ret : ∀ h₀' o' ob' ps' qs' rest' c' h' tk', KtsTurn (frs outer) h₀ h₀' → Below A₀ base outer h₀' → KtsDicts (frs outer) h₀' → Fr h₀' L h' m → News h₀' L h' (ledOf d o' b ob' ps' qs' rest') → LedOk w d o' b ob' ps' qs' rest' c' → Inv c' → (∀ q ∈ rest, q ∈ rest') → Q (.bool true) { s with heap := h', toks := tk' }) :
   wpAny (model PySem.Challenge.rw_pc0001_01.row.prog w) (ktrTop dp un gd cn cs L a ccd cl outer) (call (.ref 171) [.ref d, .ref b, .int n tn]) Q E s := by
  revert X; k_fill; intro X
  refine wpAny_call ?_
  k_dflt (refine' code_defT ?k1 ?k2 ?k3 ?k4 ?k5 ?kd ?kA ?kF ?kK ?k6 ?k7 ?k8 ?k9 ?kB ?kD ?_ ?c2 ?c3 ?c4; (case kA => exact rfl); (case kF => exact rfl); (case kK => assumption); (case k1 => k_asm); (case k2 => k_asm); (case k3 => k_asm); (case k4 => k_asm); (case k5 => k_asm); (case kd => assumption); (case k6 => k_is); (case k7 => k_is); (case k8 => ktr_room); (case k9 => exact BindsTo.of_eq rfl); (case kB => exact rfl); (case kD => decide +kernel); (case c2 => exact rfl); (case c3 => exact rfl); (case c4 => exact rfl); k_whole; intro g' L' h' tk' cells' FG' F' N' Y' B' X' T' D' T0' l1; k_cells Y'; (try simp only [List.cons_append, List.nil_append] at N'); (try dsimp only); (try k_fold))
  have C1 := chd170 X'
  have K0 := K
  obtain ⟨td, tb, lod, lob, db, d1, d2, b1, b2, rd, rb, r1, r2, te, tq⟩ := K
  have hc := (inv_ok I).len
  have hcn := I.nod
  replace db := neN db
  replace d1 := neN d1
  replace d2 := neN d2
  replace b1 := neN b1
  replace b2 := neN b2
  have hdL := lt_hd l1
  have hbL := lt_hd (lt_tl l1)
  have h1L := lt_hd (lt_tl (lt_tl l1))
  have h2L := lt_hd (lt_tl (lt_tl (lt_tl l1)))
  have hrL := lt_tl (lt_tl (lt_tl (lt_tl l1)))
  have hr0 : ∀ q ∈ rest, q.1 ≠ L' := ne_up 0 hrL
  have hr1 : ∀ q ∈ rest, q.1 ≠ L' + 1 := ne_up 1 hrL
  have hr2 : ∀ q ∈ rest, q.1 ≠ L' + 1 + 1 := ne_up 2 hrL
  have hr3 : ∀ q ∈ rest, q.1 ≠ L' + 1 + 1 + 1 := ne_up 3 hrL
  have hq0 := fdiv4_nn h0
  have hfA : decide (Int.fmod n 4 < 2) = false := decide_eq_false (by omega)
  have hfB : (Int.fmod n 4 == 2) = false := beq_eq_false_iff_ne.mpr (by omega)
  have hfC : decide (Int.fmod n 4 = 2) = false := decide_eq_false (by omega)
  have hfD : ¬ Int.fmod n 4 = 2 := by omega
  clear hform
  k_with_none
  repeat' (first
    | ((with_reducible show wpAny _ _ (execs (Stmt.If (Expr.Compare (Expr.Call _ _ _ _) _ _ _) _ _ _ :: _) _) _ _ _); refine heardHere ?_)
    | (k_unfold; (try dsimp only))
    | (k_end; wrow_close)
    | ((with_reducible show wpAny _ _ (compareOp CmpOp.In (Value.int _ _) (Value.ref _)) _ _ _); first | (with_reducible ((k_here; k_dflt (refine' td_in (by k_asm) (by k_mem) (by with_reducible assumption) (by with_reducible assumption) ?_)))) | ((k_here; k_dflt (refine' td_in (by k_asm) (by k_mem) (by with_reducible assumption) (by with_reducible assumption) ?_))))
    | ((with_reducible show wpAny _ _ (setItem (Value.ref _) (Value.int _ _) _) _ _ _); first | (with_reducible ((k_here; k_dflt (refine' td_set (by k_asm) (by k_asm) (by k_updF) (by with_reducible assumption) (by omega) ?_); intro _ _ _ N' _; (try dsimp only at N')))) | ((k_here; k_dflt (refine' td_set (by k_asm) (by k_asm) (by k_updF) (by with_reducible assumption) (by omega) ?_); intro _ _ _ N' _; (try dsimp only at N'))))
    | (first | (with_reducible ((k_here; (with_reducible show wpAny _ _ (call (Value.builtin "str.strip") [Value.str _ _, Value.str _ _]) _ _ _); refine SCL.stripChars (hsz := by exact size_le (by with_reducible assumption)) ?_; intro _ _ _))) | ((k_here; (with_reducible show wpAny _ _ (call (Value.builtin "str.strip") [Value.str _ _, Value.str _ _]) _ _ _); refine SCL.stripChars (hsz := by exact size_le (by with_reducible assumption)) ?_; intro _ _ _)))
    | ((with_reducible show LeaveT _ _ _ _ _ _ _ _ _ _ _); first | (with_reducible ((k_dflt (refine' (fun F N T z1 => leaveT_ T F N z1) (by k_asm) (by k_asm) (by with_reducible assumption) ?_; k_whole); intro _ _ _ _ _ _))) | ((k_dflt (refine' (fun F N T z1 => leaveT_ T F N z1) (by k_asm) (by k_asm) (by with_reducible assumption) ?_; k_whole); intro _ _ _ _ _ _)))
    | ((with_reducible show wpAny _ _ (subscriptTail (Expr.Name _ _) (Expr.BinOp _ _ _ _) (Value.ref _) (Value.int _ _)) _ _ _); first | (with_reducible ((k_here; k_dflt (first | ((with_reducible show wpAny _ _ (subscriptTail _ _ _ (Value.int (Int.fmod _ 5) _)) _ _ _); refine' item_n5 (by k_asm) (by k_mem) (by with_reducible assumption) ?_ (by with_unfolding_all rfl) (by intro _; with_unfolding_all rfl); intro _ _ _ _) | ((with_reducible show wpAny _ _ (subscriptTail _ _ _ (Value.int (Int.fmod _ 8) _)) _ _ _); refine' item_txts (by k_asm) (by k_mem) (by with_reducible assumption) (by exact fmod_lo _ (by decide)) (by exact fmod_hi _ (by decide)) ?_ (by with_unfolding_all rfl) (by intro _; with_unfolding_all rfl); intro _ _))))) | ((k_here; k_dflt (first | ((with_reducible show wpAny _ _ (subscriptTail _ _ _ (Value.int (Int.fmod _ 5) _)) _ _ _); refine' item_n5 (by k_asm) (by k_mem) (by with_reducible assumption) ?_ (by with_unfolding_all rfl) (by intro _; with_unfolding_all rfl); intro _ _ _ _) | ((with_reducible show wpAny _ _ (subscriptTail _ _ _ (Value.int (Int.fmod _ 8) _)) _ _ _); refine' item_txts (by k_asm) (by k_mem) (by with_reducible assumption) (by exact fmod_lo _ (by decide)) (by exact fmod_hi _ (by decide)) ?_ (by with_unfolding_all rfl) (by intro _; with_unfolding_all rfl); intro _ _)))))
    | ((with_reducible show wpAny _ _ (subscriptTail (Expr.Call (Expr.Name _ _) [] [] _) (Expr.BinOp _ _ _ _) (Value.ref _) (Value.int _ _)) _ _ _); first | (with_reducible ((k_here; k_dflt (refine kba_turn (value' := PySem.Expr.Name (PySem.Str.ofString "_") ⟨0, 0, 0, 0⟩) (fun _ => rfl) ?_)))) | ((k_here; k_dflt (refine kba_turn (value' := PySem.Expr.Name (PySem.Str.ofString "_") ⟨0, 0, 0, 0⟩) (fun _ => rfl) ?_))))
    | ((with_reducible show wpAny _ _ (call (Value.ref _) _) _ _ _); first | (with_reducible ((k_here; k_dflt (first | ((with_reducible show wpAny _ _ (call (Value.ref 131) _) _ _ _); refine' law_texts_spec (by k_asm) (by k_asm) (by k_asm) (by k_asm) (by k_asm) (by rfl) (by first | exact room1 (by with_reducible assumption) (by decide) | ktr_room) (by first | exact units1 (by with_reducible assumption) (by decide) | ktr_units) ?_; intro _ _ _ _ _ _ _ _ l1'; (have l2' := lt_hd l1'); (try k_fold)) | ((with_reducible show wpAny _ _ (call (Value.ref 138) _) _ _ _); refine' law_numbers_spec (by k_asm) (by k_asm) (by k_asm) (by k_asm) (by k_asm) (by rfl) (by first | exact room1 (by with_reducible assumption) (by decide) | ktr_room) (by first | exact units1 (by with_reducible assumption) (by decide) | ktr_units) ?_; intro _ _ _ _ _ _ _ _ l1'; (have l2' := lt_hd l1'); (try k_fold)) | ((with_reducible show wpAny _ _ (call (Value.ref 110) _) _ _ _); refine' auto_begin_spec (by k_asm) (by k_asm) (by k_asm) (by k_asm) (by k_asm) (by rfl) (by first | exact room1 (by with_reducible assumption) (by decide) | ktr_room) (by first | exact units1 (by with_reducible assumption) (by decide) | ktr_units) _ _ _ _ _ (by k_mem) (by with_reducible assumption) (by with_reducible assumption) (by with_reducible assumption) (by with_reducible assumption) ?_; intro _ _ _ _ _; (try k_fold)) | ((with_reducible show wpAny _ _ (call (Value.ref 117) _) _ _ _); refine' auto_next_spec (by k_asm) (by k_asm) (by k_asm) (by k_asm) (by k_asm) (by rfl) (by first | exact room1 (by with_reducible assumption) (by decide) | ktr_room) (by first | exact units1 (by with_reducible assumption) (by decide) | ktr_units) _ _ _ _ (by with_reducible assumption) (by with_reducible assumption) (by exact (stride_facts _).1) (by exact (stride_facts _).2) ?_ ?_; all_goals (first | (intro _ _ _ _ _; (with_reducible show wpAny _ _ _ _ _ _); (first | (exfalso; omega) | (try k_fold))) | (intro _ _ _ _ _ _ _; (with_reducible show wpAny _ _ _ _ _ _); (first | (exfalso; omega) | (try k_fold))))) | ((with_reducible show wpAny _ _ (call (Value.ref 124) _) _ _ _); refine' auto_row_spec (by k_asm) (by k_asm) (by k_asm) (by k_asm) (by k_asm) (by rfl) (by first | exact room1 (by with_reducible assumption) (by decide) | ktr_room) (by first | exact units1 (by with_reducible assumption) (by decide) | ktr_units) _ _ _ _ _ _ _ _ (by k_mem) (by k_updF) (by with_reducible assumption) (by with_reducible assumption) (by with_reducible assumption) (by with_reducible assumption) (by with_reducible assumption) (by exact txtAt_len _) ?_ ?_; all_goals (first | (intro _ _ _ _ _; (with_reducible show wpAny _ _ _ _ _ _); (first | exact (nsp1 (by with_reducible assumption) (by with_reducible assumption)).elim | exact (nsp2 (by with_reducible assumption) (by with_reducible assumption)).elim | (try k_fold))) | (intro _ _ _ _ _ N' _; (with_reducible show wpAny _ _ _ _ _ _); (try dsimp only at N'); (first | exact (nsp1 (by with_reducible assumption) (by with_reducible assumption)).elim | exact (nsp2 (by with_reducible assumption) (by with_reducible assumption)).elim | (try k_fold))))))))) | ((k_here; k_dflt (first | ((with_reducible show wpAny _ _ (call (Value.ref 131) _) _ _ _); refine' law_texts_spec (by k_asm) (by k_asm) (by k_asm) (by k_asm) (by k_asm) (by rfl) (by first | exact room1 (by with_reducible assumption) (by decide) | ktr_room) (by first | exact units1 (by with_reducible assumption) (by decide) | ktr_units) ?_; intro _ _ _ _ _ _ _ _ l1'; (have l2' := lt_hd l1'); (try k_fold)) | ((with_reducible show wpAny _ _ (call (Value.ref 138) _) _ _ _); refine' law_numbers_spec (by k_asm) (by k_asm) (by k_asm) (by k_asm) (by k_asm) (by rfl) (by first | exact room1 (by with_reducible assumption) (by decide) | ktr_room) (by first | exact units1 (by with_reducible assumption) (by decide) | ktr_units) ?_; intro _ _ _ _ _ _ _ _ l1'; (have l2' := lt_hd l1'); (try k_fold)) | ((with_reducible show wpAny _ _ (call (Value.ref 110) _) _ _ _); refine' auto_begin_spec (by k_asm) (by k_asm) (by k_asm) (by k_asm) (by k_asm) (by rfl) (by first | exact room1 (by with_reducible assumption) (by decide) | ktr_room) (by first | exact units1 (by with_reducible assumption) (by decide) | ktr_units) _ _ _ _ _ (by k_mem) (by with_reducible assumption) (by with_reducible assumption) (by with_reducible assumption) (by with_reducible assumption) ?_; intro _ _ _ _ _; (try k_fold)) | ((with_reducible show wpAny _ _ (call (Value.ref 117) _) _ _ _); refine' auto_next_spec (by k_asm) (by k_asm) (by k_asm) (by k_asm) (by k_asm) (by rfl) (by first | exact room1 (by with_reducible assumption) (by decide) | ktr_room) (by first | exact units1 (by with_reducible assumption) (by decide) | ktr_units) _ _ _ _ (by with_reducible assumption) (by with_reducible assumption) (by exact (stride_facts _).1) (by exact (stride_facts _).2) ?_ ?_; all_goals (first | (intro _ _ _ _ _; (with_reducible show wpAny _ _ _ _ _ _); (first | (exfalso; omega) | (try k_fold))) | (intro _ _ _ _ _ _ _; (with_reducible show wpAny _ _ _ _ _ _); (first | (exfalso; omega) | (try k_fold))))) | ((with_reducible show wpAny _ _ (call (Value.ref 124) _) _ _ _); refine' auto_row_spec (by k_asm) (by k_asm) (by k_asm) (by k_asm) (by k_asm) (by rfl) (by first | exact room1 (by with_reducible assumption) (by decide) | ktr_room) (by first | exact units1 (by with_reducible assumption) (by decide) | ktr_units) _ _ _ _ _ _ _ _ (by k_mem) (by k_updF) (by with_reducible assumption) (by with_reducible assumption) (by with_reducible assumption) (by with_reducible assumption) (by with_reducible assumption) (by exact txtAt_len _) ?_ ?_; all_goals (first | (intro _ _ _ _ _; (with_reducible show wpAny _ _ _ _ _ _); (first | exact (nsp1 (by with_reducible assumption) (by with_reducible assumption)).elim | exact (nsp2 (by with_reducible assumption) (by with_reducible assumption)).elim | (try k_fold))) | (intro _ _ _ _ _ N' _; (with_reducible show wpAny _ _ _ _ _ _); (try dsimp only at N'); (first | exact (nsp1 (by with_reducible assumption) (by with_reducible assumption)).elim | exact (nsp2 (by with_reducible assumption) (by with_reducible assumption)).elim | (try k_fold)))))))))
    | (first | (with_reducible ((k_here; (with_reducible show wpAny _ _ (eval (Expr.Call (Expr.Name _ _) _ [] _) _) _ _ _); k_dflt (refine Call_ ?_)))) | ((k_here; (with_reducible show wpAny _ _ (eval (Expr.Call (Expr.Name _ _) _ [] _) _) _ _ _); k_dflt (refine Call_ ?_))))
    | ((with_reducible show wpAny _ _ (callWith _ (Value.ref _) _ _ _) _ _ _); first | (with_reducible ((k_here; k_dflt (refine' callWith_K (by k_asm) (by k_is) ?_; k_whole)))) | ((k_here; k_dflt (refine' callWith_K (by k_asm) (by k_is) ?_; k_whole))))
    | ((with_reducible show wpAny _ _ (storeName _ _ _) _ _ _); first | (with_reducible ((k_here; k_dflt (refine' (fun a b F N c U d z1 => storeX_C F N c U d z1 a b) (by rfl) (by rfl) (by k_asm) (by k_asm) (by rfl) (by k_updF) (by k_asm) ?_; k_whole); intro _ _ _ N' _; (try dsimp only at N')))) | ((k_here; k_dflt (refine' (fun a b F N c U d z1 => storeX_C F N c U d z1 a b) (by rfl) (by rfl) (by k_asm) (by k_asm) (by rfl) (by k_updF) (by k_asm) ?_; k_whole); intro _ _ _ N' _; (try dsimp only at N'))))
    | ((with_reducible show wpAny _ _ (storeName _ _ _) _ _ _); k_here; k_dflt (first | (refine' storeAI s (by rfl) (by rfl) (by k_asm) (by k_asm) rfl rfl rfl ?_; k_whole; intro _ _ _ _ _) | (refine' storeAS s (by rfl) (by rfl) (by k_asm) (by k_asm) rfl rfl rfl ?_; k_whole; intro _ _ _ _ _) | (refine' storeA s (by rfl) (by rfl) (by k_asm) (by k_asm) rfl rfl rfl ?_; k_whole; intro _ _ _ _)); (try k_sweep))
    | ((with_reducible show wpAny _ _ (exec _ _) _ _ _); k_here; k_dflt (refine' anchorE s (by k_asm) rfl rfl rfl rfl ?_; k_whole; intro _); (try k_fold); walk1)
    | ((with_reducible show wpAny _ _ (exec _ _) _ _ _); k_here; k_fold; walk1)
    | walk1
    | (dsimp only; walk1)
    | (leave1; walk_say "STEP leave1"; try dsimp only)
    | fail "no step")
  unfold HeardHere
  refine' cutC (α := Unit) (b := b) (ob := ob) s 1 (fun m' _ => m') (fun _ => ob) (fun _ => True) (by k_asm) (by k_asm) (by k_updF) ?c1 ?c1r
  case c1 =>
    dsimp only [List.take]
    try k_fold
    repeat' (first
      | (k_unfold; (try dsimp only))
      | (k_end; wrow_close)
      | ((with_reducible show wpAny _ _ (compareOp CmpOp.In (Value.int _ _) (Value.ref _)) _ _ _); first | (with_reducible ((k_here; k_dflt (refine' td_in (by k_asm) (by k_mem) (by with_reducible assumption) (by with_reducible assumption) ?_)))) | ((k_here; k_dflt (refine' td_in (by k_asm) (by k_mem) (by with_reducible assumption) (by with_reducible assumption) ?_))))
      | ((with_reducible show wpAny _ _ (setItem (Value.ref _) (Value.int _ _) _) _ _ _); first | (with_reducible ((k_here; k_dflt (refine' td_set (by k_asm) (by k_asm) (by k_updF) (by with_reducible assumption) (by omega) ?_); intro _ _ _ N' _; (try dsimp only at N')))) | ((k_here; k_dflt (refine' td_set (by k_asm) (by k_asm) (by k_updF) (by with_reducible assumption) (by omega) ?_); intro _ _ _ N' _; (try dsimp only at N'))))
      | (first | (with_reducible ((k_here; (with_reducible show wpAny _ _ (call (Value.builtin "str.strip") [Value.str _ _, Value.str _ _]) _ _ _); refine SCL.stripChars (hsz := by exact size_le (by with_reducible assumption)) ?_; intro _ _ _))) | ((k_here; (with_reducible show wpAny _ _ (call (Value.builtin "str.strip") [Value.str _ _, Value.str _ _]) _ _ _); refine SCL.stripChars (hsz := by exact size_le (by with_reducible assumption)) ?_; intro _ _ _)))
      | ((with_reducible show LeaveT _ _ _ _ _ _ _ _ _ _ _); first | (with_reducible ((k_dflt (refine' (fun F N T z1 => leaveT_ T F N z1) (by k_asm) (by k_asm) (by with_reducible assumption) ?_; k_whole); intro _ _ _ _ _ _))) | ((k_dflt (refine' (fun F N T z1 => leaveT_ T F N z1) (by k_asm) (by k_asm) (by with_reducible assumption) ?_; k_whole); intro _ _ _ _ _ _)))
      | ((with_reducible show wpAny _ _ (subscriptTail (Expr.Name _ _) (Expr.BinOp _ _ _ _) (Value.ref _) (Value.int _ _)) _ _ _); first | (with_reducible ((k_here; k_dflt (first | ((with_reducible show wpAny _ _ (subscriptTail _ _ _ (Value.int (Int.fmod _ 5) _)) _ _ _); refine' item_n5 (by k_asm) (by k_mem) (by with_reducible assumption) ?_ (by with_unfolding_all rfl) (by intro _; with_unfolding_all rfl); intro _ _ _ _) | ((with_reducible show wpAny _ _ (subscriptTail _ _ _ (Value.int (Int.fmod _ 8) _)) _ _ _); refine' item_txts (by k_asm) (by k_mem) (by with_reducible assumption) (by exact fmod_lo _ (by decide)) (by exact fmod_hi _ (by decide)) ?_ (by with_unfolding_all rfl) (by intro _; with_unfolding_all rfl); intro _ _))))) | ((k_here; k_dflt (first | ((with_reducible show wpAny _ _ (subscriptTail _ _ _ (Value.int (Int.fmod _ 5) _)) _ _ _); refine' item_n5 (by k_asm) (by k_mem) (by with_reducible assumption) ?_ (by with_unfolding_all rfl) (by intro _; with_unfolding_all rfl); intro _ _ _ _) | ((with_reducible show wpAny _ _ (subscriptTail _ _ _ (Value.int (Int.fmod _ 8) _)) _ _ _); refine' item_txts (by k_asm) (by k_mem) (by with_reducible assumption) (by exact fmod_lo _ (by decide)) (by exact fmod_hi _ (by decide)) ?_ (by with_unfolding_all rfl) (by intro _; with_unfolding_all rfl); intro _ _)))))
      | ((with_reducible show wpAny _ _ (subscriptTail (Expr.Call (Expr.Name _ _) [] [] _) (Expr.BinOp _ _ _ _) (Value.ref _) (Value.int _ _)) _ _ _); first | (with_reducible ((k_here; k_dflt (refine kba_turn (value' := PySem.Expr.Name (PySem.Str.ofString "_") ⟨0, 0, 0, 0⟩) (fun _ => rfl) ?_)))) | ((k_here; k_dflt (refine kba_turn (value' := PySem.Expr.Name (PySem.Str.ofString "_") ⟨0, 0, 0, 0⟩) (fun _ => rfl) ?_))))
      | ((with_reducible show wpAny _ _ (call (Value.ref _) _) _ _ _); first | (with_reducible ((k_here; k_dflt (first | ((with_reducible show wpAny _ _ (call (Value.ref 131) _) _ _ _); refine' law_texts_spec (by k_asm) (by k_asm) (by k_asm) (by k_asm) (by k_asm) (by rfl) (by first | exact room1 (by with_reducible assumption) (by decide) | ktr_room) (by first | exact units1 (by with_reducible assumption) (by decide) | ktr_units) ?_; intro _ _ _ _ _ _ _ _ l1'; (have l2' := lt_hd l1'); (try k_fold)) | ((with_reducible show wpAny _ _ (call (Value.ref 138) _) _ _ _); refine' law_numbers_spec (by k_asm) (by k_asm) (by k_asm) (by k_asm) (by k_asm) (by rfl) (by first | exact room1 (by with_reducible assumption) (by decide) | ktr_room) (by first | exact units1 (by with_reducible assumption) (by decide) | ktr_units) ?_; intro _ _ _ _ _ _ _ _ l1'; (have l2' := lt_hd l1'); (try k_fold)) | ((with_reducible show wpAny _ _ (call (Value.ref 110) _) _ _ _); refine' auto_begin_spec (by k_asm) (by k_asm) (by k_asm) (by k_asm) (by k_asm) (by rfl) (by first | exact room1 (by with_reducible assumption) (by decide) | ktr_room) (by first | exact units1 (by with_reducible assumption) (by decide) | ktr_units) _ _ _ _ _ (by k_mem) (by with_reducible assumption) (by with_reducible assumption) (by with_reducible assumption) (by with_reducible assumption) ?_; intro _ _ _ _ _; (try k_fold)) | ((with_reducible show wpAny _ _ (call (Value.ref 117) _) _ _ _); refine' auto_next_spec (by k_asm) (by k_asm) (by k_asm) (by k_asm) (by k_asm) (by rfl) (by first | exact room1 (by with_reducible assumption) (by decide) | ktr_room) (by first | exact units1 (by with_reducible assumption) (by decide) | ktr_units) _ _ _ _ (by with_reducible assumption) (by with_reducible assumption) (by exact (stride_facts _).1) (by exact (stride_facts _).2) ?_ ?_; all_goals (first | (intro _ _ _ _ _; (with_reducible show wpAny _ _ _ _ _ _); (first | (exfalso; omega) | (try k_fold))) | (intro _ _ _ _ _ _ _; (with_reducible show wpAny _ _ _ _ _ _); (first | (exfalso; omega) | (try k_fold))))) | ((with_reducible show wpAny _ _ (call (Value.ref 124) _) _ _ _); refine' auto_row_spec (by k_asm) (by k_asm) (by k_asm) (by k_asm) (by k_asm) (by rfl) (by first | exact room1 (by with_reducible assumption) (by decide) | ktr_room) (by first | exact units1 (by with_reducible assumption) (by decide) | ktr_units) _ _ _ _ _ _ _ _ (by k_mem) (by k_updF) (by with_reducible assumption) (by with_reducible assumption) (by with_reducible assumption) (by with_reducible assumption) (by with_reducible assumption) (by exact txtAt_len _) ?_ ?_; all_goals (first | (intro _ _ _ _ _; (with_reducible show wpAny _ _ _ _ _ _); (first | exact (nsp1 (by with_reducible assumption) (by with_reducible assumption)).elim | exact (nsp2 (by with_reducible assumption) (by with_reducible assumption)).elim | (try k_fold))) | (intro _ _ _ _ _ N' _; (with_reducible show wpAny _ _ _ _ _ _); (try dsimp only at N'); (first | exact (nsp1 (by with_reducible assumption) (by with_reducible assumption)).elim | exact (nsp2 (by with_reducible assumption) (by with_reducible assumption)).elim | (try k_fold))))))))) | ((k_here; k_dflt (first | ((with_reducible show wpAny _ _ (call (Value.ref 131) _) _ _ _); refine' law_texts_spec (by k_asm) (by k_asm) (by k_asm) (by k_asm) (by k_asm) (by rfl) (by first | exact room1 (by with_reducible assumption) (by decide) | ktr_room) (by first | exact units1 (by with_reducible assumption) (by decide) | ktr_units) ?_; intro _ _ _ _ _ _ _ _ l1'; (have l2' := lt_hd l1'); (try k_fold)) | ((with_reducible show wpAny _ _ (call (Value.ref 138) _) _ _ _); refine' law_numbers_spec (by k_asm) (by k_asm) (by k_asm) (by k_asm) (by k_asm) (by rfl) (by first | exact room1 (by with_reducible assumption) (by decide) | ktr_room) (by first | exact units1 (by with_reducible assumption) (by decide) | ktr_units) ?_; intro _ _ _ _ _ _ _ _ l1'; (have l2' := lt_hd l1'); (try k_fold)) | ((with_reducible show wpAny _ _ (call (Value.ref 110) _) _ _ _); refine' auto_begin_spec (by k_asm) (by k_asm) (by k_asm) (by k_asm) (by k_asm) (by rfl) (by first | exact room1 (by with_reducible assumption) (by decide) | ktr_room) (by first | exact units1 (by with_reducible assumption) (by decide) | ktr_units) _ _ _ _ _ (by k_mem) (by with_reducible assumption) (by with_reducible assumption) (by with_reducible assumption) (by with_reducible assumption) ?_; intro _ _ _ _ _; (try k_fold)) | ((with_reducible show wpAny _ _ (call (Value.ref 117) _) _ _ _); refine' auto_next_spec (by k_asm) (by k_asm) (by k_asm) (by k_asm) (by k_asm) (by rfl) (by first | exact room1 (by with_reducible assumption) (by decide) | ktr_room) (by first | exact units1 (by with_reducible assumption) (by decide) | ktr_units) _ _ _ _ (by with_reducible assumption) (by with_reducible assumption) (by exact (stride_facts _).1) (by exact (stride_facts _).2) ?_ ?_; all_goals (first | (intro _ _ _ _ _; (with_reducible show wpAny _ _ _ _ _ _); (first | (exfalso; omega) | (try k_fold))) | (intro _ _ _ _ _ _ _; (with_reducible show wpAny _ _ _ _ _ _); (first | (exfalso; omega) | (try k_fold))))) | ((with_reducible show wpAny _ _ (call (Value.ref 124) _) _ _ _); refine' auto_row_spec (by k_asm) (by k_asm) (by k_asm) (by k_asm) (by k_asm) (by rfl) (by first | exact room1 (by with_reducible assumption) (by decide) | ktr_room) (by first | exact units1 (by with_reducible assumption) (by decide) | ktr_units) _ _ _ _ _ _ _ _ (by k_mem) (by k_updF) (by with_reducible assumption) (by with_reducible assumption) (by with_reducible assumption) (by with_reducible assumption) (by with_reducible assumption) (by exact txtAt_len _) ?_ ?_; all_goals (first | (intro _ _ _ _ _; (with_reducible show wpAny _ _ _ _ _ _); (first | exact (nsp1 (by with_reducible assumption) (by with_reducible assumption)).elim | exact (nsp2 (by with_reducible assumption) (by with_reducible assumption)).elim | (try k_fold))) | (intro _ _ _ _ _ N' _; (with_reducible show wpAny _ _ _ _ _ _); (try dsimp only at N'); (first | exact (nsp1 (by with_reducible assumption) (by with_reducible assumption)).elim | exact (nsp2 (by with_reducible assumption) (by with_reducible assumption)).elim | (try k_fold)))))))))
      | (first | (with_reducible ((k_here; (with_reducible show wpAny _ _ (eval (Expr.Call (Expr.Name _ _) _ [] _) _) _ _ _); k_dflt (refine Call_ ?_)))) | ((k_here; (with_reducible show wpAny _ _ (eval (Expr.Call (Expr.Name _ _) _ [] _) _) _ _ _); k_dflt (refine Call_ ?_))))
      | ((with_reducible show wpAny _ _ (callWith _ (Value.ref _) _ _ _) _ _ _); first | (with_reducible ((k_here; k_dflt (refine' callWith_K (by k_asm) (by k_is) ?_; k_whole)))) | ((k_here; k_dflt (refine' callWith_K (by k_asm) (by k_is) ?_; k_whole))))
      | ((with_reducible show wpAny _ _ (storeName _ _ _) _ _ _); first | (with_reducible ((k_here; k_dflt (refine' (fun a b F N c U d z1 => storeX_C F N c U d z1 a b) (by rfl) (by rfl) (by k_asm) (by k_asm) (by rfl) (by k_updF) (by k_asm) ?_; k_whole); intro _ _ _ N' _; (try dsimp only at N')))) | ((k_here; k_dflt (refine' (fun a b F N c U d z1 => storeX_C F N c U d z1 a b) (by rfl) (by rfl) (by k_asm) (by k_asm) (by rfl) (by k_updF) (by k_asm) ?_; k_whole); intro _ _ _ N' _; (try dsimp only at N'))))
      | ((with_reducible show wpAny _ _ (storeName _ _ _) _ _ _); k_here; k_dflt (first | (refine' storeAI s (by rfl) (by rfl) (by k_asm) (by k_asm) rfl rfl rfl ?_; k_whole; intro _ _ _ _ _) | (refine' storeAS s (by rfl) (by rfl) (by k_asm) (by k_asm) rfl rfl rfl ?_; k_whole; intro _ _ _ _ _) | (refine' storeA s (by rfl) (by rfl) (by k_asm) (by k_asm) rfl rfl rfl ?_; k_whole; intro _ _ _ _)); (try k_sweep))
      | ((with_reducible show wpAny _ _ (exec _ _) _ _ _); k_here; k_dflt (refine' anchorE s (by k_asm) rfl rfl rfl rfl ?_; k_whole; intro _); (try k_fold); walk1)
      | ((with_reducible show wpAny _ _ (exec _ _) _ _ _); k_here; k_fold; walk1)
      | walk1
      | (dsimp only; walk1)
      | (leave1; walk_say "STEP leave1"; try dsimp only)
      | fail "no step")
    all_goals first
      | exact (ab1 (by with_reducible assumption) (by with_reducible assumption)).elim
      | exact (ab2 (by with_reducible assumption) (by with_reducible assumption)).elim
      | exact EndC.fin () trivial (by k_asm) (by k_asm) rfl
  intro _ zh1 _ _ zF1 zN1
  dsimp only at zF1 zN1
  dsimp only [List.drop]
  refine' cutC (α := Bool × Obj × Bk) (b := b) (ob := ob) s 2 (fun m' x y => if y = Str.ofString "goes" then some (.bool x.1) else m' y) (fun x => x.2.1)
    (fun x => TDict PR w x.2.1 x.2.2 ∧ (((Txt.stripChars (txtAt (Int.fmod (Int.fdiv (Int.fdiv n 4) 5) 8)) (Str.ofString " ")) != Str.ofString "") = true ∧ x.1 = true ∧ sPut c (numAt (Int.fmod (Int.fdiv n 4) 5)) (Txt.stripChars (txtAt (Int.fmod (Int.fdiv (Int.fdiv n 4) 5) 8)) (Str.ofString " ")) = x.2.2 ∨ ((Txt.stripChars (txtAt (Int.fmod (Int.fdiv (Int.fdiv n 4) 5) 8)) (Str.ofString " ")) != Str.ofString "") = false ∧ x.1 = sHas c (numAt (Int.fmod (Int.fdiv n 4) 5)) ∧ c = x.2.2)) (by k_asm) (by k_asm) (by k_updF) ?c2 ?c2r
  case c2 =>
    dsimp only [List.take]
    try k_fold
    repeat' (first
      | (k_unfold; (try dsimp only))
      | (k_end; wrow_close)
      | ((with_reducible show wpAny _ _ (compareOp CmpOp.In (Value.int _ _) (Value.ref _)) _ _ _); first | (with_reducible ((k_here; k_dflt (refine' td_in (by k_asm) (by k_mem) (by with_reducible assumption) (by with_reducible assumption) ?_)))) | ((k_here; k_dflt (refine' td_in (by k_asm) (by k_mem) (by with_reducible assumption) (by with_reducible assumption) ?_))))
      | ((with_reducible show wpAny _ _ (setItem (Value.ref _) (Value.int _ _) _) _ _ _); first | (with_reducible ((k_here; k_dflt (refine' td_set (by k_asm) (by k_asm) (by k_updF) (by with_reducible assumption) (by omega) ?_); intro _ _ _ N' _; (try dsimp only at N')))) | ((k_here; k_dflt (refine' td_set (by k_asm) (by k_asm) (by k_updF) (by with_reducible assumption) (by omega) ?_); intro _ _ _ N' _; (try dsimp only at N'))))
      | (first | (with_reducible ((k_here; (with_reducible show wpAny _ _ (call (Value.builtin "str.strip") [Value.str _ _, Value.str _ _]) _ _ _); refine SCL.stripChars (hsz := by exact size_le (by with_reducible assumption)) ?_; intro _ _ _))) | ((k_here; (with_reducible show wpAny _ _ (call (Value.builtin "str.strip") [Value.str _ _, Value.str _ _]) _ _ _); refine SCL.stripChars (hsz := by exact size_le (by with_reducible assumption)) ?_; intro _ _ _)))
      | ((with_reducible show LeaveT _ _ _ _ _ _ _ _ _ _ _); first | (with_reducible ((k_dflt (refine' (fun F N T z1 => leaveT_ T F N z1) (by k_asm) (by k_asm) (by with_reducible assumption) ?_; k_whole); intro _ _ _ _ _ _))) | ((k_dflt (refine' (fun F N T z1 => leaveT_ T F N z1) (by k_asm) (by k_asm) (by with_reducible assumption) ?_; k_whole); intro _ _ _ _ _ _)))
      | ((with_reducible show wpAny _ _ (subscriptTail (Expr.Name _ _) (Expr.BinOp _ _ _ _) (Value.ref _) (Value.int _ _)) _ _ _); first | (with_reducible ((k_here; k_dflt (first | ((with_reducible show wpAny _ _ (subscriptTail _ _ _ (Value.int (Int.fmod _ 5) _)) _ _ _); refine' item_n5 (by k_asm) (by k_mem) (by with_reducible assumption) ?_ (by with_unfolding_all rfl) (by intro _; with_unfolding_all rfl); intro _ _ _ _) | ((with_reducible show wpAny _ _ (subscriptTail _ _ _ (Value.int (Int.fmod _ 8) _)) _ _ _); refine' item_txts (by k_asm) (by k_mem) (by with_reducible assumption) (by exact fmod_lo _ (by decide)) (by exact fmod_hi _ (by decide)) ?_ (by with_unfolding_all rfl) (by intro _; with_unfolding_all rfl); intro _ _))))) | ((k_here; k_dflt (first | ((with_reducible show wpAny _ _ (subscriptTail _ _ _ (Value.int (Int.fmod _ 5) _)) _ _ _); refine' item_n5 (by k_asm) (by k_mem) (by with_reducible assumption) ?_ (by with_unfolding_all rfl) (by intro _; with_unfolding_all rfl); intro _ _ _ _) | ((with_reducible show wpAny _ _ (subscriptTail _ _ _ (Value.int (Int.fmod _ 8) _)) _ _ _); refine' item_txts (by k_asm) (by k_mem) (by with_reducible assumption) (by exact fmod_lo _ (by decide)) (by exact fmod_hi _ (by decide)) ?_ (by with_unfolding_all rfl) (by intro _; with_unfolding_all rfl); intro _ _)))))
      | ((with_reducible show wpAny _ _ (subscriptTail (Expr.Call (Expr.Name _ _) [] [] _) (Expr.BinOp _ _ _ _) (Value.ref _) (Value.int _ _)) _ _ _); first | (with_reducible ((k_here; k_dflt (refine kba_turn (value' := PySem.Expr.Name (PySem.Str.ofString "_") ⟨0, 0, 0, 0⟩) (fun _ => rfl) ?_)))) | ((k_here; k_dflt (refine kba_turn (value' := PySem.Expr.Name (PySem.Str.ofString "_") ⟨0, 0, 0, 0⟩) (fun _ => rfl) ?_))))
      | ((with_reducible show wpAny _ _ (call (Value.ref _) _) _ _ _); first | (with_reducible ((k_here; k_dflt (first | ((with_reducible show wpAny _ _ (call (Value.ref 131) _) _ _ _); refine' law_texts_spec (by k_asm) (by k_asm) (by k_asm) (by k_asm) (by k_asm) (by rfl) (by first | exact room1 (by with_reducible assumption) (by decide) | ktr_room) (by first | exact units1 (by with_reducible assumption) (by decide) | ktr_units) ?_; intro _ _ _ _ _ _ _ _ l1'; (have l2' := lt_hd l1'); (try k_fold)) | ((with_reducible show wpAny _ _ (call (Value.ref 138) _) _ _ _); refine' law_numbers_spec (by k_asm) (by k_asm) (by k_asm) (by k_asm) (by k_asm) (by rfl) (by first | exact room1 (by with_reducible assumption) (by decide) | ktr_room) (by first | exact units1 (by with_reducible assumption) (by decide) | ktr_units) ?_; intro _ _ _ _ _ _ _ _ l1'; (have l2' := lt_hd l1'); (try k_fold)) | ((with_reducible show wpAny _ _ (call (Value.ref 110) _) _ _ _); refine' auto_begin_spec (by k_asm) (by k_asm) (by k_asm) (by k_asm) (by k_asm) (by rfl) (by first | exact room1 (by with_reducible assumption) (by decide) | ktr_room) (by first | exact units1 (by with_reducible assumption) (by decide) | ktr_units) _ _ _ _ _ (by k_mem) (by with_reducible assumption) (by with_reducible assumption) (by with_reducible assumption) (by with_reducible assumption) ?_; intro _ _ _ _ _; (try k_fold)) | ((with_reducible show wpAny _ _ (call (Value.ref 117) _) _ _ _); refine' auto_next_spec (by k_asm) (by k_asm) (by k_asm) (by k_asm) (by k_asm) (by rfl) (by first | exact room1 (by with_reducible assumption) (by decide) | ktr_room) (by first | exact units1 (by with_reducible assumption) (by decide) | ktr_units) _ _ _ _ (by with_reducible assumption) (by with_reducible assumption) (by exact (stride_facts _).1) (by exact (stride_facts _).2) ?_ ?_; all_goals (first | (intro _ _ _ _ _; (with_reducible show wpAny _ _ _ _ _ _); (first | (exfalso; omega) | (try k_fold))) | (intro _ _ _ _ _ _ _; (with_reducible show wpAny _ _ _ _ _ _); (first | (exfalso; omega) | (try k_fold))))) | ((with_reducible show wpAny _ _ (call (Value.ref 124) _) _ _ _); refine' auto_row_spec (by k_asm) (by k_asm) (by k_asm) (by k_asm) (by k_asm) (by rfl) (by first | exact room1 (by with_reducible assumption) (by decide) | ktr_room) (by first | exact units1 (by with_reducible assumption) (by decide) | ktr_units) _ _ _ _ _ _ _ _ (by k_mem) (by k_updF) (by with_reducible assumption) (by with_reducible assumption) (by with_reducible assumption) (by with_reducible assumption) (by with_reducible assumption) (by exact txtAt_len _) ?_ ?_; all_goals (first | (intro _ _ _ _ _; (with_reducible show wpAny _ _ _ _ _ _); (first | exact (nsp1 (by with_reducible assumption) (by with_reducible assumption)).elim | exact (nsp2 (by with_reducible assumption) (by with_reducible assumption)).elim | (try k_fold))) | (intro _ _ _ _ _ N' _; (with_reducible show wpAny _ _ _ _ _ _); (try dsimp only at N'); (first | exact (nsp1 (by with_reducible assumption) (by with_reducible assumption)).elim | exact (nsp2 (by with_reducible assumption) (by with_reducible assumption)).elim | (try k_fold))))))))) | ((k_here; k_dflt (first | ((with_reducible show wpAny _ _ (call (Value.ref 131) _) _ _ _); refine' law_texts_spec (by k_asm) (by k_asm) (by k_asm) (by k_asm) (by k_asm) (by rfl) (by first | exact room1 (by with_reducible assumption) (by decide) | ktr_room) (by first | exact units1 (by with_reducible assumption) (by decide) | ktr_units) ?_; intro _ _ _ _ _ _ _ _ l1'; (have l2' := lt_hd l1'); (try k_fold)) | ((with_reducible show wpAny _ _ (call (Value.ref 138) _) _ _ _); refine' law_numbers_spec (by k_asm) (by k_asm) (by k_asm) (by k_asm) (by k_asm) (by rfl) (by first | exact room1 (by with_reducible assumption) (by decide) | ktr_room) (by first | exact units1 (by with_reducible assumption) (by decide) | ktr_units) ?_; intro _ _ _ _ _ _ _ _ l1'; (have l2' := lt_hd l1'); (try k_fold)) | ((with_reducible show wpAny _ _ (call (Value.ref 110) _) _ _ _); refine' auto_begin_spec (by k_asm) (by k_asm) (by k_asm) (by k_asm) (by k_asm) (by rfl) (by first | exact room1 (by with_reducible assumption) (by decide) | ktr_room) (by first | exact units1 (by with_reducible assumption) (by decide) | ktr_units) _ _ _ _ _ (by k_mem) (by with_reducible assumption) (by with_reducible assumption) (by with_reducible assumption) (by with_reducible assumption) ?_; intro _ _ _ _ _; (try k_fold)) | ((with_reducible show wpAny _ _ (call (Value.ref 117) _) _ _ _); refine' auto_next_spec (by k_asm) (by k_asm) (by k_asm) (by k_asm) (by k_asm) (by rfl) (by first | exact room1 (by with_reducible assumption) (by decide) | ktr_room) (by first | exact units1 (by with_reducible assumption) (by decide) | ktr_units) _ _ _ _ (by with_reducible assumption) (by with_reducible assumption) (by exact (stride_facts _).1) (by exact (stride_facts _).2) ?_ ?_; all_goals (first | (intro _ _ _ _ _; (with_reducible show wpAny _ _ _ _ _ _); (first | (exfalso; omega) | (try k_fold))) | (intro _ _ _ _ _ _ _; (with_reducible show wpAny _ _ _ _ _ _); (first | (exfalso; omega) | (try k_fold))))) | ((with_reducible show wpAny _ _ (call (Value.ref 124) _) _ _ _); refine' auto_row_spec (by k_asm) (by k_asm) (by k_asm) (by k_asm) (by k_asm) (by rfl) (by first | exact room1 (by with_reducible assumption) (by decide) | ktr_room) (by first | exact units1 (by with_reducible assumption) (by decide) | ktr_units) _ _ _ _ _ _ _ _ (by k_mem) (by k_updF) (by with_reducible assumption) (by with_reducible assumption) (by with_reducible assumption) (by with_reducible assumption) (by with_reducible assumption) (by exact txtAt_len _) ?_ ?_; all_goals (first | (intro _ _ _ _ _; (with_reducible show wpAny _ _ _ _ _ _); (first | exact (nsp1 (by with_reducible assumption) (by with_reducible assumption)).elim | exact (nsp2 (by with_reducible assumption) (by with_reducible assumption)).elim | (try k_fold))) | (intro _ _ _ _ _ N' _; (with_reducible show wpAny _ _ _ _ _ _); (try dsimp only at N'); (first | exact (nsp1 (by with_reducible assumption) (by with_reducible assumption)).elim | exact (nsp2 (by with_reducible assumption) (by with_reducible assumption)).elim | (try k_fold)))))))))
      | (first | (with_reducible ((k_here; (with_reducible show wpAny _ _ (eval (Expr.Call (Expr.Name _ _) _ [] _) _) _ _ _); k_dflt (refine Call_ ?_)))) | ((k_here; (with_reducible show wpAny _ _ (eval (Expr.Call (Expr.Name _ _) _ [] _) _) _ _ _); k_dflt (refine Call_ ?_))))
      | ((with_reducible show wpAny _ _ (callWith _ (Value.ref _) _ _ _) _ _ _); first | (with_reducible ((k_here; k_dflt (refine' callWith_K (by k_asm) (by k_is) ?_; k_whole)))) | ((k_here; k_dflt (refine' callWith_K (by k_asm) (by k_is) ?_; k_whole))))
      | ((with_reducible show wpAny _ _ (storeName _ _ _) _ _ _); first | (with_reducible ((k_here; k_dflt (refine' (fun a b F N c U d z1 => storeX_C F N c U d z1 a b) (by rfl) (by rfl) (by k_asm) (by k_asm) (by rfl) (by k_updF) (by k_asm) ?_; k_whole); intro _ _ _ N' _; (try dsimp only at N')))) | ((k_here; k_dflt (refine' (fun a b F N c U d z1 => storeX_C F N c U d z1 a b) (by rfl) (by rfl) (by k_asm) (by k_asm) (by rfl) (by k_updF) (by k_asm) ?_; k_whole); intro _ _ _ N' _; (try dsimp only at N'))))
      | ((with_reducible show wpAny _ _ (storeName _ _ _) _ _ _); k_here; k_dflt (first | (refine' storeAI s (by rfl) (by rfl) (by k_asm) (by k_asm) rfl rfl rfl ?_; k_whole; intro _ _ _ _ _) | (refine' storeAS s (by rfl) (by rfl) (by k_asm) (by k_asm) rfl rfl rfl ?_; k_whole; intro _ _ _ _ _) | (refine' storeA s (by rfl) (by rfl) (by k_asm) (by k_asm) rfl rfl rfl ?_; k_whole; intro _ _ _ _)); (try k_sweep))
      | ((with_reducible show wpAny _ _ (exec _ _) _ _ _); k_here; k_dflt (refine' anchorE s (by k_asm) rfl rfl rfl rfl ?_; k_whole; intro _); (try k_fold); walk1)
      | ((with_reducible show wpAny _ _ (exec _ _) _ _ _); k_here; k_fold; walk1)
      | walk1
      | (dsimp only; walk1)
      | (leave1; walk_say "STEP leave1"; try dsimp only)
      | fail "no step")
    all_goals first
      | exact EndC.fin (sHas c (numAt (Int.fmod (Int.fdiv n 4) 5)), _, sPut c (numAt (Int.fmod (Int.fdiv n 4) 5)) (Txt.stripChars (txtAt (Int.fmod (Int.fdiv (Int.fdiv n 4) 5) 8)) (Str.ofString " "))) ⟨by with_reducible assumption, .inl ⟨by with_reducible assumption, by with_reducible assumption, rfl⟩⟩ (by k_asm) (by k_asm) rfl
      | exact EndC.fin (sHas c (numAt (Int.fmod (Int.fdiv n 4) 5)), ob, c) ⟨tb, .inr ⟨by with_reducible assumption, rfl, rfl⟩⟩ (by k_asm) (by k_asm) rfl
      | exact EndC.fin (((Txt.stripChars (txtAt (Int.fmod (Int.fdiv (Int.fdiv n 4) 5) 8)) (Str.ofString " ")) != Str.ofString ""), _, sPut c (numAt (Int.fmod (Int.fdiv n 4) 5)) (Txt.stripChars (txtAt (Int.fmod (Int.fdiv (Int.fdiv n 4) 5) 8)) (Str.ofString " "))) ⟨by with_reducible assumption, .inl ⟨by with_reducible assumption, by with_reducible assumption, rfl⟩⟩ (by k_asm) (by k_asm) rfl
      | exact EndC.fin (((Txt.stripChars (txtAt (Int.fmod (Int.fdiv (Int.fdiv n 4) 5) 8)) (Str.ofString " ")) != Str.ofString ""), ob, c) ⟨tb, .inr ⟨by with_reducible assumption, (by with_reducible assumption : ((Txt.stripChars (txtAt (Int.fmod (Int.fdiv (Int.fdiv n 4) 5) 8)) (Str.ofString " ")) != Str.ofString "") = false).trans (by with_reducible assumption : sHas c (numAt (Int.fmod (Int.fdiv n 4) 5)) = false).symm, rfl⟩⟩ (by k_asm) (by k_asm) rfl
  intro x zh2 _ hP zF2 zN2
  obtain ⟨gb, o9, c9⟩ := x
  obtain ⟨T9, hP⟩ := hP
  dsimp only at zF2 zN2 T9 hP
  dsimp only [List.drop]
  refine' cutC (α := Value × Tok) (b := b) (ob := o9) s 2 (fun m' x y => if y = Str.ofString "due" then some x.1 else if y = Str.ofString "stride" then some (.int (Int.fmod (Int.fdiv (Int.fdiv n 4) 40) 3 * 10) x.2) else m' y) (fun _ => o9)
    (fun x => (∃ t, x.1 = .int ((numAt (Int.fmod (Int.fdiv n 4) 5)) + (Int.fmod (Int.fdiv (Int.fdiv n 4) 40) 3 * 10)) t ∧ 0 < (Int.fmod (Int.fdiv (Int.fdiv n 4) 40) 3 * 10) ∧ (numAt (Int.fmod (Int.fdiv n 4) 5)) + (Int.fmod (Int.fdiv (Int.fdiv n 4) 40) 3 * 10) < 65530) ∨ x.1 = .none ∧ ¬ (0 < (Int.fmod (Int.fdiv (Int.fdiv n 4) 40) 3 * 10) ∧ (numAt (Int.fmod (Int.fdiv n 4) 5)) + (Int.fmod (Int.fdiv (Int.fdiv n 4) 40) 3 * 10) < 65530)) (by k_asm) (by k_asm) (by k_updF) ?c3 ?c3r
  case c3 =>
    dsimp only [List.take]
    try k_fold
    repeat' (first
      | (k_unfold; (try dsimp only))
      | (k_end; wrow_close)
      | ((with_reducible show wpAny _ _ (compareOp CmpOp.In (Value.int _ _) (Value.ref _)) _ _ _); first | (with_reducible ((k_here; k_dflt (refine' td_in (by k_asm) (by k_mem) (by with_reducible assumption) (by with_reducible assumption) ?_)))) | ((k_here; k_dflt (refine' td_in (by k_asm) (by k_mem) (by with_reducible assumption) (by with_reducible assumption) ?_))))
      | ((with_reducible show wpAny _ _ (setItem (Value.ref _) (Value.int _ _) _) _ _ _); first | (with_reducible ((k_here; k_dflt (refine' td_set (by k_asm) (by k_asm) (by k_updF) (by with_reducible assumption) (by omega) ?_); intro _ _ _ N' _; (try dsimp only at N')))) | ((k_here; k_dflt (refine' td_set (by k_asm) (by k_asm) (by k_updF) (by with_reducible assumption) (by omega) ?_); intro _ _ _ N' _; (try dsimp only at N'))))
      | (first | (with_reducible ((k_here; (with_reducible show wpAny _ _ (call (Value.builtin "str.strip") [Value.str _ _, Value.str _ _]) _ _ _); refine SCL.stripChars (hsz := by exact size_le (by with_reducible assumption)) ?_; intro _ _ _))) | ((k_here; (with_reducible show wpAny _ _ (call (Value.builtin "str.strip") [Value.str _ _, Value.str _ _]) _ _ _); refine SCL.stripChars (hsz := by exact size_le (by with_reducible assumption)) ?_; intro _ _ _)))
      | ((with_reducible show LeaveT _ _ _ _ _ _ _ _ _ _ _); first | (with_reducible ((k_dflt (refine' (fun F N T z1 => leaveT_ T F N z1) (by k_asm) (by k_asm) (by with_reducible assumption) ?_; k_whole); intro _ _ _ _ _ _))) | ((k_dflt (refine' (fun F N T z1 => leaveT_ T F N z1) (by k_asm) (by k_asm) (by with_reducible assumption) ?_; k_whole); intro _ _ _ _ _ _)))
      | ((with_reducible show wpAny _ _ (subscriptTail (Expr.Name _ _) (Expr.BinOp _ _ _ _) (Value.ref _) (Value.int _ _)) _ _ _); first | (with_reducible ((k_here; k_dflt (first | ((with_reducible show wpAny _ _ (subscriptTail _ _ _ (Value.int (Int.fmod _ 5) _)) _ _ _); refine' item_n5 (by k_asm) (by k_mem) (by with_reducible assumption) ?_ (by with_unfolding_all rfl) (by intro _; with_unfolding_all rfl); intro _ _ _ _) | ((with_reducible show wpAny _ _ (subscriptTail _ _ _ (Value.int (Int.fmod _ 8) _)) _ _ _); refine' item_txts (by k_asm) (by k_mem) (by with_reducible assumption) (by exact fmod_lo _ (by decide)) (by exact fmod_hi _ (by decide)) ?_ (by with_unfolding_all rfl) (by intro _; with_unfolding_all rfl); intro _ _))))) | ((k_here; k_dflt (first | ((with_reducible show wpAny _ _ (subscriptTail _ _ _ (Value.int (Int.fmod _ 5) _)) _ _ _); refine' item_n5 (by k_asm) (by k_mem) (by with_reducible assumption) ?_ (by with_unfolding_all rfl) (by intro _; with_unfolding_all rfl); intro _ _ _ _) | ((with_reducible show wpAny _ _ (subscriptTail _ _ _ (Value.int (Int.fmod _ 8) _)) _ _ _); refine' item_txts (by k_asm) (by k_mem) (by with_reducible assumption) (by exact fmod_lo _ (by decide)) (by exact fmod_hi _ (by decide)) ?_ (by with_unfolding_all rfl) (by intro _; with_unfolding_all rfl); intro _ _)))))
      | ((with_reducible show wpAny _ _ (subscriptTail (Expr.Call (Expr.Name _ _) [] [] _) (Expr.BinOp _ _ _ _) (Value.ref _) (Value.int _ _)) _ _ _); first | (with_reducible ((k_here; k_dflt (refine kba_turn (value' := PySem.Expr.Name (PySem.Str.ofString "_") ⟨0, 0, 0, 0⟩) (fun _ => rfl) ?_)))) | ((k_here; k_dflt (refine kba_turn (value' := PySem.Expr.Name (PySem.Str.ofString "_") ⟨0, 0, 0, 0⟩) (fun _ => rfl) ?_))))
      | ((with_reducible show wpAny _ _ (call (Value.ref _) _) _ _ _); first | (with_reducible ((k_here; k_dflt (first | ((with_reducible show wpAny _ _ (call (Value.ref 131) _) _ _ _); refine' law_texts_spec (by k_asm) (by k_asm) (by k_asm) (by k_asm) (by k_asm) (by rfl) (by first | exact room1 (by with_reducible assumption) (by decide) | ktr_room) (by first | exact units1 (by with_reducible assumption) (by decide) | ktr_units) ?_; intro _ _ _ _ _ _ _ _ l1'; (have l2' := lt_hd l1'); (try k_fold)) | ((with_reducible show wpAny _ _ (call (Value.ref 138) _) _ _ _); refine' law_numbers_spec (by k_asm) (by k_asm) (by k_asm) (by k_asm) (by k_asm) (by rfl) (by first | exact room1 (by with_reducible assumption) (by decide) | ktr_room) (by first | exact units1 (by with_reducible assumption) (by decide) | ktr_units) ?_; intro _ _ _ _ _ _ _ _ l1'; (have l2' := lt_hd l1'); (try k_fold)) | ((with_reducible show wpAny _ _ (call (Value.ref 110) _) _ _ _); refine' auto_begin_spec (by k_asm) (by k_asm) (by k_asm) (by k_asm) (by k_asm) (by rfl) (by first | exact room1 (by with_reducible assumption) (by decide) | ktr_room) (by first | exact units1 (by with_reducible assumption) (by decide) | ktr_units) _ _ _ _ _ (by k_mem) (by with_reducible assumption) (by with_reducible assumption) (by with_reducible assumption) (by with_reducible assumption) ?_; intro _ _ _ _ _; (try k_fold)) | ((with_reducible show wpAny _ _ (call (Value.ref 117) _) _ _ _); refine' auto_next_spec (by k_asm) (by k_asm) (by k_asm) (by k_asm) (by k_asm) (by rfl) (by first | exact room1 (by with_reducible assumption) (by decide) | ktr_room) (by first | exact units1 (by with_reducible assumption) (by decide) | ktr_units) _ _ _ _ (by with_reducible assumption) (by with_reducible assumption) (by exact (stride_facts _).1) (by exact (stride_facts _).2) ?_ ?_; all_goals (first | (intro _ _ _ _ _; (with_reducible show wpAny _ _ _ _ _ _); (first | (exfalso; omega) | (try k_fold))) | (intro _ _ _ _ _ _ _; (with_reducible show wpAny _ _ _ _ _ _); (first | (exfalso; omega) | (try k_fold))))) | ((with_reducible show wpAny _ _ (call (Value.ref 124) _) _ _ _); refine' auto_row_spec (by k_asm) (by k_asm) (by k_asm) (by k_asm) (by k_asm) (by rfl) (by first | exact room1 (by with_reducible assumption) (by decide) | ktr_room) (by first | exact units1 (by with_reducible assumption) (by decide) | ktr_units) _ _ _ _ _ _ _ _ (by k_mem) (by k_updF) (by with_reducible assumption) (by with_reducible assumption) (by with_reducible assumption) (by with_reducible assumption) (by with_reducible assumption) (by exact txtAt_len _) ?_ ?_; all_goals (first | (intro _ _ _ _ _; (with_reducible show wpAny _ _ _ _ _ _); (first | exact (nsp1 (by with_reducible assumption) (by with_reducible assumption)).elim | exact (nsp2 (by with_reducible assumption) (by with_reducible assumption)).elim | (try k_fold))) | (intro _ _ _ _ _ N' _; (with_reducible show wpAny _ _ _ _ _ _); (try dsimp only at N'); (first | exact (nsp1 (by with_reducible assumption) (by with_reducible assumption)).elim | exact (nsp2 (by with_reducible assumption) (by with_reducible assumption)).elim | (try k_fold))))))))) | ((k_here; k_dflt (first | ((with_reducible show wpAny _ _ (call (Value.ref 131) _) _ _ _); refine' law_texts_spec (by k_asm) (by k_asm) (by k_asm) (by k_asm) (by k_asm) (by rfl) (by first | exact room1 (by with_reducible assumption) (by decide) | ktr_room) (by first | exact units1 (by with_reducible assumption) (by decide) | ktr_units) ?_; intro _ _ _ _ _ _ _ _ l1'; (have l2' := lt_hd l1'); (try k_fold)) | ((with_reducible show wpAny _ _ (call (Value.ref 138) _) _ _ _); refine' law_numbers_spec (by k_asm) (by k_asm) (by k_asm) (by k_asm) (by k_asm) (by rfl) (by first | exact room1 (by with_reducible assumption) (by decide) | ktr_room) (by first | exact units1 (by with_reducible assumption) (by decide) | ktr_units) ?_; intro _ _ _ _ _ _ _ _ l1'; (have l2' := lt_hd l1'); (try k_fold)) | ((with_reducible show wpAny _ _ (call (Value.ref 110) _) _ _ _); refine' auto_begin_spec (by k_asm) (by k_asm) (by k_asm) (by k_asm) (by k_asm) (by rfl) (by first | exact room1 (by with_reducible assumption) (by decide) | ktr_room) (by first | exact units1 (by with_reducible assumption) (by decide) | ktr_units) _ _ _ _ _ (by k_mem) (by with_reducible assumption) (by with_reducible assumption) (by with_reducible assumption) (by with_reducible assumption) ?_; intro _ _ _ _ _; (try k_fold)) | ((with_reducible show wpAny _ _ (call (Value.ref 117) _) _ _ _); refine' auto_next_spec (by k_asm) (by k_asm) (by k_asm) (by k_asm) (by k_asm) (by rfl) (by first | exact room1 (by with_reducible assumption) (by decide) | ktr_room) (by first | exact units1 (by with_reducible assumption) (by decide) | ktr_units) _ _ _ _ (by with_reducible assumption) (by with_reducible assumption) (by exact (stride_facts _).1) (by exact (stride_facts _).2) ?_ ?_; all_goals (first | (intro _ _ _ _ _; (with_reducible show wpAny _ _ _ _ _ _); (first | (exfalso; omega) | (try k_fold))) | (intro _ _ _ _ _ _ _; (with_reducible show wpAny _ _ _ _ _ _); (first | (exfalso; omega) | (try k_fold))))) | ((with_reducible show wpAny _ _ (call (Value.ref 124) _) _ _ _); refine' auto_row_spec (by k_asm) (by k_asm) (by k_asm) (by k_asm) (by k_asm) (by rfl) (by first | exact room1 (by with_reducible assumption) (by decide) | ktr_room) (by first | exact units1 (by with_reducible assumption) (by decide) | ktr_units) _ _ _ _ _ _ _ _ (by k_mem) (by k_updF) (by with_reducible assumption) (by with_reducible assumption) (by with_reducible assumption) (by with_reducible assumption) (by with_reducible assumption) (by exact txtAt_len _) ?_ ?_; all_goals (first | (intro _ _ _ _ _; (with_reducible show wpAny _ _ _ _ _ _); (first | exact (nsp1 (by with_reducible assumption) (by with_reducible assumption)).elim | exact (nsp2 (by with_reducible assumption) (by with_reducible assumption)).elim | (try k_fold))) | (intro _ _ _ _ _ N' _; (with_reducible show wpAny _ _ _ _ _ _); (try dsimp only at N'); (first | exact (nsp1 (by with_reducible assumption) (by with_reducible assumption)).elim | exact (nsp2 (by with_reducible assumption) (by with_reducible assumption)).elim | (try k_fold)))))))))
      | (first | (with_reducible ((k_here; (with_reducible show wpAny _ _ (eval (Expr.Call (Expr.Name _ _) _ [] _) _) _ _ _); k_dflt (refine Call_ ?_)))) | ((k_here; (with_reducible show wpAny _ _ (eval (Expr.Call (Expr.Name _ _) _ [] _) _) _ _ _); k_dflt (refine Call_ ?_))))
      | ((with_reducible show wpAny _ _ (callWith _ (Value.ref _) _ _ _) _ _ _); first | (with_reducible ((k_here; k_dflt (refine' callWith_K (by k_asm) (by k_is) ?_; k_whole)))) | ((k_here; k_dflt (refine' callWith_K (by k_asm) (by k_is) ?_; k_whole))))
      | ((with_reducible show wpAny _ _ (storeName _ _ _) _ _ _); first | (with_reducible ((k_here; k_dflt (refine' (fun a b F N c U d z1 => storeX_C F N c U d z1 a b) (by rfl) (by rfl) (by k_asm) (by k_asm) (by rfl) (by k_updF) (by k_asm) ?_; k_whole); intro _ _ _ N' _; (try dsimp only at N')))) | ((k_here; k_dflt (refine' (fun a b F N c U d z1 => storeX_C F N c U d z1 a b) (by rfl) (by rfl) (by k_asm) (by k_asm) (by rfl) (by k_updF) (by k_asm) ?_; k_whole); intro _ _ _ N' _; (try dsimp only at N'))))
      | ((with_reducible show wpAny _ _ (storeName _ _ _) _ _ _); k_here; k_dflt (first | (refine' storeAI s (by rfl) (by rfl) (by k_asm) (by k_asm) rfl rfl rfl ?_; k_whole; intro _ _ _ _ _) | (refine' storeAS s (by rfl) (by rfl) (by k_asm) (by k_asm) rfl rfl rfl ?_; k_whole; intro _ _ _ _ _) | (refine' storeA s (by rfl) (by rfl) (by k_asm) (by k_asm) rfl rfl rfl ?_; k_whole; intro _ _ _ _)); (try k_sweep))
      | ((with_reducible show wpAny _ _ (exec _ _) _ _ _); k_here; k_dflt (refine' anchorE s (by k_asm) rfl rfl rfl rfl ?_; k_whole; intro _); (try k_fold); walk1)
      | ((with_reducible show wpAny _ _ (exec _ _) _ _ _); k_here; k_fold; walk1)
      | walk1
      | (dsimp only; walk1)
      | (leave1; walk_say "STEP leave1"; try dsimp only)
      | fail "no step")
    all_goals first
      | exact EndC.fin (.int ((numAt (Int.fmod (Int.fdiv n 4) 5)) + (Int.fmod (Int.fdiv (Int.fdiv n 4) 40) 3 * 10)) _, _) (.inl ⟨_, rfl, by omega, by omega⟩) (by k_asm) (by k_asm) rfl
      | exact EndC.fin (.none, _) (.inr ⟨rfl, by omega⟩) (by k_asm) (by k_asm) rfl
  intro x zh3 _ hD zF3 zN3
  obtain ⟨v9, t9⟩ := x
  dsimp only at zF3 zN3 hD
  dsimp only [List.drop]
  rcases hD with ⟨t8, rfl, q1, q2⟩ | ⟨rfl, q1⟩ <;> rcases hP with ⟨hs, rfl, rfl⟩ | ⟨hs, rfl, rfl⟩
  all_goals (try k_fold)
  all_goals repeat' (first
              | (k_unfold; (try dsimp only))
              | (k_end; wrow_close)
              | ((with_reducible show wpAny _ _ (compareOp CmpOp.In (Value.int _ _) (Value.ref _)) _ _ _); first | (with_reducible ((k_here; k_dflt (refine' td_in (by k_asm) (by k_mem) (by with_reducible assumption) (by with_reducible assumption) ?_)))) | ((k_here; k_dflt (refine' td_in (by k_asm) (by k_mem) (by with_reducible assumption) (by with_reducible assumption) ?_))))
              | ((with_reducible show wpAny _ _ (setItem (Value.ref _) (Value.int _ _) _) _ _ _); first | (with_reducible ((k_here; k_dflt (refine' td_set (by k_asm) (by k_asm) (by k_updF) (by with_reducible assumption) (by omega) ?_); intro _ _ _ N' _; (try dsimp only at N')))) | ((k_here; k_dflt (refine' td_set (by k_asm) (by k_asm) (by k_updF) (by with_reducible assumption) (by omega) ?_); intro _ _ _ N' _; (try dsimp only at N'))))
              | (first | (with_reducible ((k_here; (with_reducible show wpAny _ _ (call (Value.builtin "str.strip") [Value.str _ _, Value.str _ _]) _ _ _); refine SCL.stripChars (hsz := by exact size_le (by with_reducible assumption)) ?_; intro _ _ _))) | ((k_here; (with_reducible show wpAny _ _ (call (Value.builtin "str.strip") [Value.str _ _, Value.str _ _]) _ _ _); refine SCL.stripChars (hsz := by exact size_le (by with_reducible assumption)) ?_; intro _ _ _)))
              | ((with_reducible show LeaveT _ _ _ _ _ _ _ _ _ _ _); first | (with_reducible ((k_dflt (refine' (fun F N T z1 => leaveT_ T F N z1) (by k_asm) (by k_asm) (by with_reducible assumption) ?_; k_whole); intro _ _ _ _ _ _))) | ((k_dflt (refine' (fun F N T z1 => leaveT_ T F N z1) (by k_asm) (by k_asm) (by with_reducible assumption) ?_; k_whole); intro _ _ _ _ _ _)))
              | ((with_reducible show wpAny _ _ (subscriptTail (Expr.Name _ _) (Expr.BinOp _ _ _ _) (Value.ref _) (Value.int _ _)) _ _ _); first | (with_reducible ((k_here; k_dflt (first | ((with_reducible show wpAny _ _ (subscriptTail _ _ _ (Value.int (Int.fmod _ 5) _)) _ _ _); refine' item_n5 (by k_asm) (by k_mem) (by with_reducible assumption) ?_ (by with_unfolding_all rfl) (by intro _; with_unfolding_all rfl); intro _ _ _ _) | ((with_reducible show wpAny _ _ (subscriptTail _ _ _ (Value.int (Int.fmod _ 8) _)) _ _ _); refine' item_txts (by k_asm) (by k_mem) (by with_reducible assumption) (by exact fmod_lo _ (by decide)) (by exact fmod_hi _ (by decide)) ?_ (by with_unfolding_all rfl) (by intro _; with_unfolding_all rfl); intro _ _))))) | ((k_here; k_dflt (first | ((with_reducible show wpAny _ _ (subscriptTail _ _ _ (Value.int (Int.fmod _ 5) _)) _ _ _); refine' item_n5 (by k_asm) (by k_mem) (by with_reducible assumption) ?_ (by with_unfolding_all rfl) (by intro _; with_unfolding_all rfl); intro _ _ _ _) | ((with_reducible show wpAny _ _ (subscriptTail _ _ _ (Value.int (Int.fmod _ 8) _)) _ _ _); refine' item_txts (by k_asm) (by k_mem) (by with_reducible assumption) (by exact fmod_lo _ (by decide)) (by exact fmod_hi _ (by decide)) ?_ (by with_unfolding_all rfl) (by intro _; with_unfolding_all rfl); intro _ _)))))
              | ((with_reducible show wpAny _ _ (subscriptTail (Expr.Call (Expr.Name _ _) [] [] _) (Expr.BinOp _ _ _ _) (Value.ref _) (Value.int _ _)) _ _ _); first | (with_reducible ((k_here; k_dflt (refine kba_turn (value' := PySem.Expr.Name (PySem.Str.ofString "_") ⟨0, 0, 0, 0⟩) (fun _ => rfl) ?_)))) | ((k_here; k_dflt (refine kba_turn (value' := PySem.Expr.Name (PySem.Str.ofString "_") ⟨0, 0, 0, 0⟩) (fun _ => rfl) ?_))))
              | ((with_reducible show wpAny _ _ (call (Value.ref _) _) _ _ _); first | (with_reducible ((k_here; k_dflt (first | ((with_reducible show wpAny _ _ (call (Value.ref 131) _) _ _ _); refine' law_texts_spec (by k_asm) (by k_asm) (by k_asm) (by k_asm) (by k_asm) (by rfl) (by first | exact room1 (by with_reducible assumption) (by decide) | ktr_room) (by first | exact units1 (by with_reducible assumption) (by decide) | ktr_units) ?_; intro _ _ _ _ _ _ _ _ l1'; (have l2' := lt_hd l1'); (try k_fold)) | ((with_reducible show wpAny _ _ (call (Value.ref 138) _) _ _ _); refine' law_numbers_spec (by k_asm) (by k_asm) (by k_asm) (by k_asm) (by k_asm) (by rfl) (by first | exact room1 (by with_reducible assumption) (by decide) | ktr_room) (by first | exact units1 (by with_reducible assumption) (by decide) | ktr_units) ?_; intro _ _ _ _ _ _ _ _ l1'; (have l2' := lt_hd l1'); (try k_fold)) | ((with_reducible show wpAny _ _ (call (Value.ref 110) _) _ _ _); refine' auto_begin_spec (by k_asm) (by k_asm) (by k_asm) (by k_asm) (by k_asm) (by rfl) (by first | exact room1 (by with_reducible assumption) (by decide) | ktr_room) (by first | exact units1 (by with_reducible assumption) (by decide) | ktr_units) _ _ _ _ _ (by k_mem) (by with_reducible assumption) (by with_reducible assumption) (by with_reducible assumption) (by with_reducible assumption) ?_; intro _ _ _ _ _; (try k_fold)) | ((with_reducible show wpAny _ _ (call (Value.ref 117) _) _ _ _); refine' auto_next_spec (by k_asm) (by k_asm) (by k_asm) (by k_asm) (by k_asm) (by rfl) (by first | exact room1 (by with_reducible assumption) (by decide) | ktr_room) (by first | exact units1 (by with_reducible assumption) (by decide) | ktr_units) _ _ _ _ (by with_reducible assumption) (by with_reducible assumption) (by exact (stride_facts _).1) (by exact (stride_facts _).2) ?_ ?_; all_goals (first | (intro _ _ _ _ _; (with_reducible show wpAny _ _ _ _ _ _); (first | (exfalso; omega) | (try k_fold))) | (intro _ _ _ _ _ _ _; (with_reducible show wpAny _ _ _ _ _ _); (first | (exfalso; omega) | (try k_fold))))) | ((with_reducible show wpAny _ _ (call (Value.ref 124) _) _ _ _); refine' auto_row_spec (by k_asm) (by k_asm) (by k_asm) (by k_asm) (by k_asm) (by rfl) (by first | exact room1 (by with_reducible assumption) (by decide) | ktr_room) (by first | exact units1 (by with_reducible assumption) (by decide) | ktr_units) _ _ _ _ _ _ _ _ (by k_mem) (by k_updF) (by with_reducible assumption) (by with_reducible assumption) (by with_reducible assumption) (by with_reducible assumption) (by with_reducible assumption) (by exact txtAt_len _) ?_ ?_; all_goals (first | (intro _ _ _ _ _; (with_reducible show wpAny _ _ _ _ _ _); (first | exact (nsp1 (by with_reducible assumption) (by with_reducible assumption)).elim | exact (nsp2 (by with_reducible assumption) (by with_reducible assumption)).elim | (try k_fold))) | (intro _ _ _ _ _ N' _; (with_reducible show wpAny _ _ _ _ _ _); (try dsimp only at N'); (first | exact (nsp1 (by with_reducible assumption) (by with_reducible assumption)).elim | exact (nsp2 (by with_reducible assumption) (by with_reducible assumption)).elim | (try k_fold))))))))) | ((k_here; k_dflt (first | ((with_reducible show wpAny _ _ (call (Value.ref 131) _) _ _ _); refine' law_texts_spec (by k_asm) (by k_asm) (by k_asm) (by k_asm) (by k_asm) (by rfl) (by first | exact room1 (by with_reducible assumption) (by decide) | ktr_room) (by first | exact units1 (by with_reducible assumption) (by decide) | ktr_units) ?_; intro _ _ _ _ _ _ _ _ l1'; (have l2' := lt_hd l1'); (try k_fold)) | ((with_reducible show wpAny _ _ (call (Value.ref 138) _) _ _ _); refine' law_numbers_spec (by k_asm) (by k_asm) (by k_asm) (by k_asm) (by k_asm) (by rfl) (by first | exact room1 (by with_reducible assumption) (by decide) | ktr_room) (by first | exact units1 (by with_reducible assumption) (by decide) | ktr_units) ?_; intro _ _ _ _ _ _ _ _ l1'; (have l2' := lt_hd l1'); (try k_fold)) | ((with_reducible show wpAny _ _ (call (Value.ref 110) _) _ _ _); refine' auto_begin_spec (by k_asm) (by k_asm) (by k_asm) (by k_asm) (by k_asm) (by rfl) (by first | exact room1 (by with_reducible assumption) (by decide) | ktr_room) (by first | exact units1 (by with_reducible assumption) (by decide) | ktr_units) _ _ _ _ _ (by k_mem) (by with_reducible assumption) (by with_reducible assumption) (by with_reducible assumption) (by with_reducible assumption) ?_; intro _ _ _ _ _; (try k_fold)) | ((with_reducible show wpAny _ _ (call (Value.ref 117) _) _ _ _); refine' auto_next_spec (by k_asm) (by k_asm) (by k_asm) (by k_asm) (by k_asm) (by rfl) (by first | exact room1 (by with_reducible assumption) (by decide) | ktr_room) (by first | exact units1 (by with_reducible assumption) (by decide) | ktr_units) _ _ _ _ (by with_reducible assumption) (by with_reducible assumption) (by exact (stride_facts _).1) (by exact (stride_facts _).2) ?_ ?_; all_goals (first | (intro _ _ _ _ _; (with_reducible show wpAny _ _ _ _ _ _); (first | (exfalso; omega) | (try k_fold))) | (intro _ _ _ _ _ _ _; (with_reducible show wpAny _ _ _ _ _ _); (first | (exfalso; omega) | (try k_fold))))) | ((with_reducible show wpAny _ _ (call (Value.ref 124) _) _ _ _); refine' auto_row_spec (by k_asm) (by k_asm) (by k_asm) (by k_asm) (by k_asm) (by rfl) (by first | exact room1 (by with_reducible assumption) (by decide) | ktr_room) (by first | exact units1 (by with_reducible assumption) (by decide) | ktr_units) _ _ _ _ _ _ _ _ (by k_mem) (by k_updF) (by with_reducible assumption) (by with_reducible assumption) (by with_reducible assumption) (by with_reducible assumption) (by with_reducible assumption) (by exact txtAt_len _) ?_ ?_; all_goals (first | (intro _ _ _ _ _; (with_reducible show wpAny _ _ _ _ _ _); (first | exact (nsp1 (by with_reducible assumption) (by with_reducible assumption)).elim | exact (nsp2 (by with_reducible assumption) (by with_reducible assumption)).elim | (try k_fold))) | (intro _ _ _ _ _ N' _; (with_reducible show wpAny _ _ _ _ _ _); (try dsimp only at N'); (first | exact (nsp1 (by with_reducible assumption) (by with_reducible assumption)).elim | exact (nsp2 (by with_reducible assumption) (by with_reducible assumption)).elim | (try k_fold)))))))))
              | (first | (with_reducible ((k_here; (with_reducible show wpAny _ _ (eval (Expr.Call (Expr.Name _ _) _ [] _) _) _ _ _); k_dflt (refine Call_ ?_)))) | ((k_here; (with_reducible show wpAny _ _ (eval (Expr.Call (Expr.Name _ _) _ [] _) _) _ _ _); k_dflt (refine Call_ ?_))))
              | ((with_reducible show wpAny _ _ (callWith _ (Value.ref _) _ _ _) _ _ _); first | (with_reducible ((k_here; k_dflt (refine' callWith_K (by k_asm) (by k_is) ?_; k_whole)))) | ((k_here; k_dflt (refine' callWith_K (by k_asm) (by k_is) ?_; k_whole))))
              | ((with_reducible show wpAny _ _ (storeName _ _ _) _ _ _); first | (with_reducible ((k_here; k_dflt (refine' (fun a b F N c U d z1 => storeX_C F N c U d z1 a b) (by rfl) (by rfl) (by k_asm) (by k_asm) (by rfl) (by k_updF) (by k_asm) ?_; k_whole); intro _ _ _ N' _; (try dsimp only at N')))) | ((k_here; k_dflt (refine' (fun a b F N c U d z1 => storeX_C F N c U d z1 a b) (by rfl) (by rfl) (by k_asm) (by k_asm) (by rfl) (by k_updF) (by k_asm) ?_; k_whole); intro _ _ _ N' _; (try dsimp only at N'))))
              | ((with_reducible show wpAny _ _ (storeName _ _ _) _ _ _); k_here; k_dflt (first | (refine' storeAI s (by rfl) (by rfl) (by k_asm) (by k_asm) rfl rfl rfl ?_; k_whole; intro _ _ _ _ _) | (refine' storeAS s (by rfl) (by rfl) (by k_asm) (by k_asm) rfl rfl rfl ?_; k_whole; intro _ _ _ _ _) | (refine' storeA s (by rfl) (by rfl) (by k_asm) (by k_asm) rfl rfl rfl ?_; k_whole; intro _ _ _ _)); (try k_sweep))
              | ((with_reducible show wpAny _ _ (exec _ _) _ _ _); k_here; k_dflt (refine' anchorE s (by k_asm) rfl rfl rfl rfl ?_; k_whole; intro _); (try k_fold); walk1)
              | ((with_reducible show wpAny _ _ (exec _ _) _ _ _); k_here; k_fold; walk1)
              | walk1
              | (dsimp only; walk1)
              | (leave1; walk_say "STEP leave1"; try dsimp only)
              | fail "no step")
  all_goals first
    | exact (ab1 (by with_reducible assumption) (by with_reducible assumption)).elim
    | exact (ab2 (by with_reducible assumption) (by with_reducible assumption)).elim
    | exact (beqF (by with_reducible assumption)).elim
    | exact (tb1 (by with_reducible assumption) (by with_reducible assumption)).elim
    | exact (tb2 (by with_reducible assumption) (by with_reducible assumption) (by with_reducible assumption)).elim
    | skip
  all_goals (try rw [beq_self_eq_true])
  all_goals rename_i zT zB zD zF zN
  all_goals first
    | (have hs := (by with_reducible assumption : (Txt.stripChars (txtAt (Int.fmod (Int.fdiv (Int.fdiv n 4) 5) 8)) (Str.ofString " ") != Str.ofString "") = false)
       exact ret _ o o9 ps qs rest c _ _ zT zB zD zF (newsSub zN (List.forall_mem_cons.mpr ⟨by k_mem, List.forall_mem_cons.mpr ⟨by k_mem, List.forall_mem_cons.mpr ⟨by k_mem, List.forall_mem_cons.mpr ⟨by k_mem, fun q hq => by repeat (first | exact hq | apply List.mem_cons_of_mem)⟩⟩⟩⟩)) ⟨td, T9, lod, lob, db, d1, d2, b1, b2, rd, rb, r1, r2, te, tq⟩ I (fun q hq => hq))
    | (have hs := (by with_reducible assumption : (Txt.stripChars (txtAt (Int.fmod (Int.fdiv (Int.fdiv n 4) 5) 8)) (Str.ofString " ") != Str.ofString "") = true)
       have N9 := newsSub (b := ledOf d _ b _ ps qs rest) zN (List.forall_mem_cons.mpr ⟨by k_mem, List.forall_mem_cons.mpr ⟨by k_mem, List.forall_mem_cons.mpr ⟨by k_mem, List.forall_mem_cons.mpr ⟨by k_mem, fun q hq => by repeat (first | exact hq | apply List.mem_cons_of_mem)⟩⟩⟩⟩)
       exact ret _ _ _ ps qs rest (sPut c (numAt (Int.fmod (Int.fdiv n 4) 5)) (Txt.stripChars (txtAt (Int.fmod (Int.fdiv (Int.fdiv n 4) 5) 8)) (Str.ofString " "))) _ _ zT zB zD zF N9 ⟨by with_reducible assumption, by with_reducible assumption, lod, lob, db, d1, d2, b1, b2, rd, rb, r1, r2, te, tq⟩ (inv_put I (by with_reducible assumption) (strip_kept hs)) (fun q hq => hq))
end
end Mine
end

/-! part P23 -/
section
open PySem PySem.W PyProof.Rows PyProof.V
open PySem.Spec PySem.Calls
set_option maxRecDepth 100000
set_option linter.unusedVariables false
namespace Mine
section
variable {w : World} {p : Program} {loose : List Str} {mean : ExcName → Option Value} {mg mb : Str → Option Value} {dp un : Nat} {gd : Option (List Code)} {cn : Str} {cs : Scope} {a : Addr} {ccd : Value} {cl : List (Str × Addr)} {outer : List Env} {A₀ : Around} {base h₀ : Heap} {L : Addr} {m : Str → Option Value} {news : List (Addr × Obj)} {s : Shared}
    {Q E : Value → Shared → Prop}
set_option maxHeartbeats 1000000 in
theorem law_deed_spec (B : Below A₀ base outer h₀) (F : Fr h₀ L s.heap m) (X : (hd.heap_39 w.params).In h₀) (T : Top p loose mean mg mb h₀) (XB : (hd.heap_39 w.params).In base) (TB : Top p loose mean mg mb base) (D : KtsDicts (frs outer) h₀) (hk : cs.kind = .function) (hd : dp + 120 < recursionLimit) (hu : un + 1200 < cLine)
   (d : Addr) (o : Obj) (b : Addr) (ob : Obj) (ps qs : Array Value) (rest : List (Addr × Obj)) (c : Bk) (N : News h₀ L s.heap (ledOf d o b ob ps qs rest)) (K : LedOk w d o b ob ps qs rest c) (I : Inv c) (n : Int) (tn : Tok) (h0 : 0 ≤ n)
   (ret : ∀ h₀' o' ob' ps' qs' rest' c' h' tk', KtsTurn (frs outer) h₀ h₀' → Below A₀ base outer h₀' → KtsDicts (frs outer) h₀' → Fr h₀' L h' m → News h₀' L h' (ledOf d o' b ob' ps' qs' rest') → LedOk w d o' b ob' ps' qs' rest' c' → Inv c' → (∀ q ∈ rest, q ∈ rest') → Q (.bool true) { s with heap := h', toks := tk' }) :
   wpAny (model PySem.Challenge.rw_pc0001_01.row.prog w) (ktrTop dp un gd cn cs L a ccd cl outer) (call (.ref 171) [.ref d, .ref b, .int n tn]) Q E s := by
  have lo := fmod_lo n (n := 4) (by decide)
  have hi := fmod_hi n (n := 4) (by decide)
  by_cases h1 : Int.fmod n 4 < 2
  · exact law_deedA B F X T XB TB D hk hd hu d o b ob ps qs rest c N K I n tn h0 h1 ret
  · by_cases h2 : Int.fmod n 4 = 2
    · exact law_deedB B F X T XB TB D hk hd hu d o b ob ps qs rest c N K I n tn h0 h2 ret
    · exact law_deedC B F X T XB TB D hk hd hu d o b ob ps qs rest c N K I n tn h0 (by omega) ret
end
end Mine
end

/-! part P24a -/
section
open PySem PySem.W PyProof.Rows PyProof.V
open PySem.Spec PySem.Calls
set_option maxRecDepth 100000
set_option linter.unusedVariables false
namespace Mine
/-- what a turn of the great loop leaves behind -/
def GrowEnd (h₀ : Heap) (L : Addr) (J : (Str → Option Value) → List (Addr × Obj) → Prop) (I : Addr) (oI : Obj) (s : Shared) (f : Flow) (s₂ : Shared) : Prop :=
  f = .next ∧ ∃ h' tk' m' nx, s₂ = { s with heap := h', toks := tk' } ∧ Fr h₀ L h' m' ∧ News h₀ L h' ((I, oI) :: nx) ∧ (∀ q ∈ nx, q.1 ≠ I) ∧ J m' nx
section
variable {prog : Program} {w : World} {A : Around} {E : Value → Shared → Prop} {s : Shared} {env : Env} {h₀ : Heap} {x : Str} {body : List Stmt} {Q : Flow → Shared → Prop}
theorem iter_grow {l : Addr} {vs : List Value} {ns : List Int} {nn : Nat} {m₀ : Str → Option Value} {news : List (Addr × Obj)} (J : (Str → Option Value) → List (Addr × Obj) → Prop)
    (hh : A.handled = none) (hi : IntsAre vs ns) (F : Fr h₀ env.locals s.heap m₀) (N : News h₀ env.locals s.heap news) (hj : J m₀ news) (hl : ∀ m nx, J m nx → (l, listOf vs.toArray nn) ∈ nx)
    (turn : ∀ n t m₁ nx I oI h tk, n ∈ ns → (∃ k : Int, oI.data = .fields #[.ref l, .int k 0]) → (∀ q ∈ nx, q.1 ≠ I) → J m₁ nx → Fr h₀ env.locals h (fun y => if y = x then some (.int n t) else m₁ y) → News h₀ env.locals h ((I, oI) :: nx) →
      wpAny (model prog w) A (execs body env) (GrowEnd h₀ env.locals J I oI s) E { s with heap := h, toks := tk })
    (done : ∀ m₁ nx h tk, J m₁ nx → Fr h₀ env.locals h m₁ → News h₀ env.locals h nx → Q .next { s with heap := h, toks := tk }) :
    wpAny (model prog w) A (pyIter (.ref l)) (fun it s₂ => LoopAtV prog w A h₀ env x body Q E it s₂) E s := by
  have hl₀ := hl _ _ hj
  have hol : s.heap.get? l = some (listOf vs.toArray nn) := (N _ hl₀).1
  have hls : s.heap.IsList l vs.toArray := ⟨_, hol, rfl, nn, rfl⟩
  have hne : l ≠ s.heap.objs.size := Nat.ne_of_lt (Heap.lt_size hol)
  refine wpAny_pyIter_list hls ?_
  have W := Walks.list (prog := prog) (w := w) hh s.heap.objs.size l hne vs.toArray
  have hlen : vs.toArray.size = ns.length := by simp [hi.length]
  rw [hlen] at W
  refine ⟨_, _, _, ns.length, _, _, m₀, news, (fun _ m nx => J m nx), rfl, W, ?_, ?_, ?_, ⟨⟨_, Heap.get?_push_size _ rfl, rfl, rfl⟩, hls.at fun o e => Heap.get?_push_of_some _ e⟩, F.push _, (fun p hp => ⟨Heap.get?_push_of_some _ (N p hp).1, (N p hp).2⟩), hj, ?_, ?_⟩
  · intro hm
    rcases List.mem_cons.mp hm with e | hm
    · exact absurd F.ns.lt (e ▸ Nat.lt_irrefl _)
    · exact (N _ hl₀).2.1 (List.mem_singleton.mp hm).symm
  · intro b hb
    rw [List.mem_singleton.mp hb]
    exact next_is_new F
  · intro p hp hI
    exact absurd (Heap.lt_size (N p hp).1) ((List.mem_singleton.mp hI) ▸ Nat.lt_irrefl _)
  · rintro i v m₁ nx s₁ own ⟨h1, tk1, rfl⟩ hin hP hJ hoff hown hget hfp hst F₁ N₁
    obtain ⟨⟨oI, hoI, _, hoD⟩, _⟩ := id hst
    have hIown : (s.heap.objs.size, oI) ∈ own := hfp _ (List.mem_cons.mpr (.inl rfl)) (next_is_new F) _ hoI
    have hlt' : i < ns.length := hin
    obtain ⟨t, hx⟩ := hi.get i ns[i] (by simp [hlt'])
    have hv : v = .int ns[i] t := by
      have hP' : vs[i]? = some v := by simpa using hP
      rw [hx] at hP'; exact (Option.some.inj hP').symm
    subst hv
    have hnI : ∀ q ∈ nx, q.1 ≠ s.heap.objs.size := fun q hq e => hoff q hq (List.mem_singleton.mpr e)
    have N₂ : News h₀ env.locals h1 ((s.heap.objs.size, oI) :: nx) := fun p hp => (List.mem_cons.mp hp).elim (fun e => e ▸ N₁ _ (List.mem_append_left _ hIown)) fun h => N₁ p (List.mem_append_right _ h)
    have hlo : h1.get? l = some (listOf vs.toArray nn) := (N₁ _ (List.mem_append_right _ (hl _ _ hJ))).1
    refine wpAny_mono (turn ns[i] t m₁ nx _ oI h1 tk1 (List.getElem_mem hlt') ⟨_, hoD⟩ hnI hJ F₁ N₂) (fun f s₂ q => ?_) fun _ _ e => e
    obtain ⟨rfl, h2, tk2, m2, nx2, rfl, F2, N2, off2, J2⟩ := q
    refine .next ⟨rfl, h2, tk2, m2, nx2, rfl, F2, fun p hp => ?_, fun p hp he => off2 p hp (List.mem_singleton.mp he), J2⟩
    rcases List.mem_append.mp hp with h | h
    · have hg := hget p h
      rcases List.mem_cons.mp (hown p h) with e | e
      · rw [e, hoI] at hg
        have : p = (s.heap.objs.size, oI) := Prod.ext e (Option.some.inj hg).symm
        rw [this]
        exact N2 _ (.head _)
      · have e := List.mem_singleton.mp e
        rw [e, hlo] at hg
        have : p = (l, listOf vs.toArray nn) := Prod.ext e (Option.some.inj hg).symm
        rw [this]
        exact N2 _ (.tail _ (hl _ _ J2))
    · exact N2 p (.tail _ h)
  · rintro h' tk' m' nx F' N' _ hJ
    exact done m' nx h' tk' hJ F' N'
end
end Mine
end

/-! part P24b -/
section
open PySem PySem.W PyProof.Rows PyProof.V
open PySem.Spec PySem.Calls
set_option maxRecDepth 100000
set_option linter.unusedVariables false
namespace Mine
theorem fresh_P24b : True := by
  w_top off
  trivial
abbrev qualL : Str := Str.ofString "law" ++ Str.ofString ".<locals>." ++ Str.ofString "<lambda>"
abbrev scLL : Scope := { kind := ScopeKind.function, names := [(Str.ofString "program_of_rows", NameKind.globalImplicit)], isGenerator := false, isCoroutine := false }
abbrev lamBodyL (p1 p2 p3 p4 p5 : Pos) : PySem.Expr := .Call (.Name (Str.ofString "program_of_rows") p1) [.List [.Constant (Const.str (Str.ofString "10 A")) 0 p2, .Constant (Const.str (Str.ofString "B")) 0 p3] p4] [] p5
theorem strs_dat : ∀ {vs : List Value} {xs : List Str}, StrsAre vs xs → DatAll [] vs (xs.map Dat.str)
  | _, _, .nil => .nil
  | _, _, .cons y t r => .cons (.str y t) (strs_dat r)
theorem turn_nil_fr {g g' h : Heap} {L : Addr} {m : Str → Option Value} (T : KtsTurn [] g g') (F : Fr g' L h m) : Fr g L h m :=
  ⟨F.ns, fun b o e => F.keep b o (T.other b o e (fun q => nomatch q)), T.size ▸ F.above⟩
theorem turn_nil_news {g g' h : Heap} {L : Addr} {news : List (Addr × Obj)} (T : KtsTurn [] g g') (N : News g' L h news) : News g L h news :=
  fun q hq => ⟨(N q hq).1, (N q hq).2.1, by
    have h1 := (N q hq).2.2
    cases e : g.get? q.1 with
    | none => rfl
    | some o => rw [T.other _ o e (fun q => nomatch q)] at h1; cases h1⟩
theorem row_ok10 : RowOk (Str.ofString "10 A") := by
  constructor
  · constructor <;> decide +kernel
  all_goals decide +kernel
theorem row_badB : RowBad (Str.ofString "B") := by
  constructor
  · constructor <;> decide +kernel
  all_goals decide +kernel
theorem rows_str : ∀ k ∈ keys, ∀ x ∈ keptTexts, PyData.strOk (rowOf k x) = true := by decide +kernel
theorem rows_strOk {c : Bk} (h : Inv c) : ∀ r ∈ allRows c, PyData.strOk r = true := by
  intro r hr
  obtain ⟨k, hk, rfl⟩ := List.mem_map.mp hr
  rw [within_all h] at hk
  obtain ⟨x, hx, e, _⟩ := row_at h hk
  rw [e]
  exact rows_str _ (h.key _ hx) _ (h.txt _ hx)
section
variable {prog : Program} {w : World} {A : Around} {E : Value → Shared → Prop} {s : Shared} {h₀ : Heap} {L a b : Addr} {news : List (Addr × Obj)} {vs us : List Value} {xs : List Str} {ka kb : Nat} {Q : Value → Shared → Prop}
open Classical in
theorem strs_ne (N : News h₀ L s.heap news) (ma : (a, listOf vs.toArray ka) ∈ news) (mb : (b, listOf us.toArray kb) ∈ news) (hv : StrsAre vs xs) (hw : StrsAre us xs) (ok : ∀ x ∈ xs, PyData.strOk x = true) (hu : A.units + 64 < cLine) (h : Q (.bool false) s) :
    wpAny (model prog w) A (compareOp .NotEq (.ref a) (.ref b)) Q E s := by
  have hk : ∀ d ∈ xs.map Dat.str, kqdOk 8 d = true := fun d hd => by
    obtain ⟨x, hx, rfl⟩ := List.mem_map.mp hd
    exact ok x hx
  refine kqd_ne N ma rfl rfl (strs_dat hv) (fun _ h => nomatch h) mb rfl rfl (strs_dat hw) (fun _ h => nomatch h) hk hk hu ?_
  rw [(decide_eq_true_iff).mpr rfl]
  exact h
end
section
variable {w : World} {p : Program} {loose : List Str} {mean : ExcName → Option Value} {mg mb : Str → Option Value} {dp un : Nat} {gd : Option (List Code)} {cn : Str} {cs : Scope} {a : Addr} {ccd : Value} {cl : List (Str × Addr)} {outer : List Env} {A₀ : Around} {base h₀ : Heap} {L : Addr} {m : Str → Option Value} {news : List (Addr × Obj)} {s : Shared}
    {Q E : Value → Shared → Prop}
theorem lamL {M : Model} {A : Around} {params : Arguments} {body : PySem.Expr} {scope : Scope} {ps : Array Value} {pos : Pos} {clos : List (Str × Addr)} {rest : List (Addr × Obj)} {g : Obj → List (Addr × Obj)} {sc : Scope} {af : Addr} (F : Fr h₀ L s.heap m) (N : News h₀ L s.heap news) (T : Top p loose mean mg mb h₀) (C : CodeHd h₀ 175 173) (U : UpdF 173 (tabObj ps) news g) (tg : TabGood qualL ps rest) (sub : ∀ q ∈ rest, q ∈ news)
    (hcl : closureFor scope (envX (Str.ofString "law") sc L af (.ref 175) cl) = pure clos) (hdef : defaultsOf params (envX (Str.ofString "law") sc L af (.ref 175) cl) = ([], []))
    (h : ∀ f c' oc vs t ctv ps' h' tk, Fr h₀ L h' m → News h₀ L h' ((f, kla_obj (Str.ofString "<lambda>") qualL params body scope clos ((mg "__name__").getD .none) c' ctv) :: (c', oc) :: g (tabObj ps')) →
      oc.data = .fields vs → vs[1]? = some (.str qualL t) → (∀ q ∈ news, q.1 < f) → @LT.lt Nat _ c' f → Q (.ref f) { s with heap := h', toks := tk }) :
    wpAny M A (eval (.Lambda params body scope pos) (envX (Str.ofString "law") sc L af (.ref 175) cl)) Q E s :=
  kla_eval hdef (lam_made F N T C rfl U tg sub hcl fun f c' oc vs t ctv ps' h' tk F' N' e1 e2 _ _ l1 l2 => h f c' oc vs t ctv ps' h' tk F' N' e1 e2 l1 l2)
local macro_rules | `(tactic| k_mem) => `(tactic| first | (with_reducible assumption) | exact List.mem_cons_self | (refine List.mem_cons_of_mem _ ?_; k_mem))
set_option maxHeartbeats 8000000 in
theorem thunkL (B : Below A₀ base outer h₀) (F : Fr h₀ L s.heap m) (X : (hd.heap_39 w.params).In h₀) (N : News h₀ L s.heap news) (T : Top p loose mean mg mb h₀) (hk : cs.kind = .function) (hd : dp + 70 < recursionLimit) (hu : un + 700 < cLine)
   (f c' : Addr) (oc : Obj) (pm ctv : Value) (p1 p2 p3 p4 p5 : Pos) (vs : Array Value) (tq : Tok)
   (hf0 : (f, kla_obj (Str.ofString "<lambda>") qualL par0 (lamBodyL p1 p2 p3 p4 p5) scLL [] pm c' ctv) ∈ news) (hoc : (c', oc) ∈ news) (hoc1 : oc.data = .fields vs) (hoc2 : vs[1]? = some (.str qualL tq))
   (err : RaiseTo base h₀ L m (envX cn cs L a ccd cl :: outer) news "SN" E s) :
   wpAny (model PySem.Challenge.rw_pc0001_01.row.prog w) (ktrTop dp un gd cn cs L a ccd cl outer) (call (.ref f) []) Q E s := by
  revert X; k_fill; intro X
  refine wpAny_call ?_
  refine' kla_code ?k1 ?k2 ?k3 ?k4 ?k5 ?kA ?kF ?kK ?k6 ?k7 ?k8 ?k9 ?kB ?_ ?c2 ?c3 ?c4 ?c5
  case kA => exact rfl
  case kF => exact rfl
  case kK => assumption
  case k1 => k_asm
  case k2 => k_asm
  case k3 => k_asm
  case k4 => k_asm
  case k5 => k_asm
  case k6 => exact hf0
  case k7 => exact codeRec_news N hoc hoc1 hoc2
  case k8 => ktr_room
  case k9 => exact rfl
  case c5 => decide
  case kB => exact locs rfl
  case c2 => exact rfl
  case c3 => exact rfl
  case c4 => exact rfl
  k_whole
  intro g' L' h' FG' F' N' B' X' T'
  (try dsimp only)
  (try k_fold)
  k_with_none
  repeat' (first
    | (k_unfold; (try dsimp only))
    | (k_end; wrow_close)
    | ((with_reducible show wpAny _ _ (leaving _ _) _ _ _); first | (with_reducible ((k_here; k_dflt ((refine' (fun K R F u z1 => leave_onD K F R u z1) (by k_asm) (by with_reducible assumption) (by with_reducible assumption) (by with_reducible assumption) ?_; intro _ _ _))))) | ((k_here; k_dflt ((refine' (fun K R F u z1 => leave_onD K F R u z1) (by k_asm) (by with_reducible assumption) (by with_reducible assumption) (by with_reducible assumption) ?_; intro _ _ _)))))
    | (first | (with_reducible ((k_here; (with_reducible show wpAny _ _ (eval (Expr.Call (Expr.Name _ _) _ [] _) _) _ _ _); k_dflt (refine Call_ ?_)))) | ((k_here; (with_reducible show wpAny _ _ (eval (Expr.Call (Expr.Name _ _) _ [] _) _) _ _ _); k_dflt (refine Call_ ?_))))
    | ((with_reducible show wpAny _ _ (exec _ _) _ _ _); k_here; k_fold; walk1)
    | walk1
    | (dsimp only; walk1)
    | (leave1; walk_say "STEP leave1"; try dsimp only)
    | fail "no step")
  refine' program_of_rows_raiseN ?BB ?FF X' ?TT rfl ?dd ?uu _ [.str (Str.ofString "10 A") _, .str (Str.ofString "B") _] 0 [Str.ofString "10 A"] (Str.ofString "B") ?NN ?nl (.cons _ _ (.cons _ _ .nil)) (by decide) ?ok row_badB ?er
  case BB => k_asm
  case FF => k_asm
  case TT => k_asm
  case dd => ktr_room
  case uu => ktr_units
  case NN => k_asm
  case nl => exact fun q hq => Nat.ne_of_lt ((by with_reducible assumption : ∀ p ∈ news, p.1 < _) q hq)
  case ok => exact fun r hr => by rw [List.mem_singleton.mp hr]; exact row_ok10
  intro g1' e1' dx1' odx1' h1' tk1' FG1' R1' u1' hD1'
  (try dsimp only)
  repeat' (first
    | (k_unfold; (try dsimp only))
    | (k_end; wrow_close)
    | ((with_reducible show wpAny _ _ (leaving _ _) _ _ _); first | (with_reducible ((k_here; k_dflt ((refine' (fun K R F u z1 => leave_onD K F R u z1) (by k_asm) (by with_reducible assumption) (by with_reducible assumption) (by with_reducible assumption) ?_; intro _ _ _))))) | ((k_here; k_dflt ((refine' (fun K R F u z1 => leave_onD K F R u z1) (by k_asm) (by with_reducible assumption) (by with_reducible assumption) (by with_reducible assumption) ?_; intro _ _ _)))))
    | (first | (with_reducible ((k_here; (with_reducible show wpAny _ _ (eval (Expr.Call (Expr.Name _ _) _ [] _) _) _ _ _); k_dflt (refine Call_ ?_)))) | ((k_here; (with_reducible show wpAny _ _ (eval (Expr.Call (Expr.Name _ _) _ [] _) _) _ _ _); k_dflt (refine Call_ ?_))))
    | ((with_reducible show wpAny _ _ (exec _ _) _ _ _); k_here; k_fold; walk1)
    | walk1
    | (dsimp only; walk1)
    | (leave1; walk_say "STEP leave1"; try dsimp only)
    | fail "no step")
  exact err _ _ _ _ _ _ (by with_reducible assumption) (by with_reducible assumption) (by with_reducible assumption) (by with_reducible assumption)
set_option maxHeartbeats 8000000 in
theorem heardL (B : Below A₀ base outer h₀) (F : Fr h₀ L s.heap m) (X : (Mine.hd.heap_39 w.params).In h₀) (N : News h₀ L s.heap news) (T : Top p loose mean mg mb h₀) (XB : (Mine.hd.heap_39 w.params).In base) (TB : Top p loose mean mg mb base) (Dk : KtsDicts (frs outer) h₀) (hk : cs.kind = .function) (hd : dp + 90 < recursionLimit) (hu : un + 900 < cLine)
   (f c' : Addr) (oc : Obj) (pm ctv : Value) (p1 p2 p3 p4 p5 : Pos) (vs : Array Value) (tq : Tok)
   (hf0 : (f, kla_obj (Str.ofString "<lambda>") qualL par0 (lamBodyL p1 p2 p3 p4 p5) scLL [] pm c' ctv) ∈ news) (hoc : (c', oc) ∈ news) (hoc1 : oc.data = .fields vs) (hoc2 : vs[1]? = some (.str qualL tq))
   (err : ∀ h₀' D t tc h' tk', KtsTurn (frs outer) h₀ h₀' → Below A₀ base outer h₀' → KtsDicts (frs outer) h₀' → Fr h₀' L h' m → News h₀' L h' ((D, tupObj [.str (Str.ofString "refused") t, .str (Str.ofString "SN") tc]) :: news) → Q (.ref D) { s with heap := h', toks := tk' }) :
   wpAny (model PySem.Challenge.rw_pc0001_01.row.prog w) (ktrTop dp un gd cn cs L a ccd cl outer) (call (.ref 145) [.ref f]) Q E s := by
  refine heard_spec (fun _ _ => False) (fun code nw => code = Str.ofString "SN" ∧ nw = news) B F X T XB TB Dk hk (by omega) (by omega) f N _ _ hf0 rfl ?_ ?_ ?_
  · intro g L' h₁ tk mH Q' E' FG FH NH BH XH TH okv oke
    refine' thunkL BH FH XH NH TH ?k ?d ?u f c' oc pm ctv p1 p2 p3 p4 p5 vs tq hf0 hoc hoc1 hoc2 ?er
    case k => rfl
    case d => ktr_room
    case u => ktr_units
    case er => exact oke _ _ ⟨rfl, rfl⟩
  · exact fun v nw h => h.elim
  · rintro code nw ⟨rfl, rfl⟩ h₀' D t tc h' tk' z1 z2 z3 z4 z5
    exact err _ _ _ _ _ _ z1 z2 z3 z4 z5
end
end Mine
end

/-! part P24c -/
section
open PySem PySem.W PyProof.Rows PyProof.V
open PySem.Spec PySem.Calls
set_option maxRecDepth 100000
set_option linter.unusedVariables false
namespace Mine
/-- the great loop's state -/
def LawJ (w : World) (d b : Addr) (bs : List (Addr × Obj)) (m : Str → Option Value) (nx : List (Addr × Obj)) : Prop :=
  ∃ o ob ps qs rest c, ∃ u : Str → Option Value, nx = ledOf d o b ob ps qs rest ∧ LedOk w d o b ob ps qs rest c ∧ Inv c ∧ (∀ q ∈ bs, q ∈ rest) ∧ m = fun y => if y = Str.ofString "program" then some (.ref d) else u y
def offI (I : Addr) (l : List (Addr × Obj)) : List (Addr × Obj) := l.filter fun q => decide (q.1 ≠ I)
theorem offI_sub {I : Addr} {l : List (Addr × Obj)} : ∀ q ∈ offI I l, q ∈ l := fun q hq => (List.mem_filter.mp hq).1
theorem offI_ne {I : Addr} {l : List (Addr × Obj)} : ∀ q ∈ offI I l, q.1 ≠ I := fun q hq => of_decide_eq_true (List.mem_filter.mp hq).2
theorem offI_mem {I : Addr} {l : List (Addr × Obj)} {q : Addr × Obj} (h : q ∈ l) (hn : q.1 ≠ I) : q ∈ offI I l := List.mem_filter.mpr ⟨h, decide_eq_true hn⟩
theorem tab_off {qual : Str} {ps : Array Value} {l : List (Addr × Obj)} {g h : Heap} {L I : Addr} {oI : Obj} {x : Value} {k : Int} (T : TabGood qual ps l) (N : News g L h l) (hI : (I, oI) ∈ l) (hd : oI.data = .fields #[x, .int k 0]) : TabGood qual ps (offI I l) :=
  ⟨T.tri, fun pos v e => by
    obtain ⟨c, oc, vs, t, rfl, hm, h1, h2⟩ := T.hit pos v e
    refine ⟨c, oc, vs, t, rfl, offI_mem hm ?_, h1, h2⟩
    rintro rfl
    have e1 := (N _ hm).1
    have e2 := (N _ hI).1
    rw [e1] at e2
    cases Option.some.inj e2
    rw [hd] at h1
    injection h1 with h1
    rw [← h1] at h2
    simp at h2⟩
theorem led_off {w : World} {d b : Addr} {o ob : Obj} {ps qs : Array Value} {rest : List (Addr × Obj)} {c : Bk} {g h : Heap} {L I : Addr} {oI : Obj} {x : Value} {k : Int} (K : LedOk w d o b ob ps qs rest c) (N : News g L h (ledOf d o b ob ps qs rest)) (hI : (I, oI) ∈ rest) (hd : oI.data = .fields #[x, .int k 0]) : LedOk w d o b ob ps qs (offI I rest) c := by
  have N' : News g L h rest := fun q hq => N q (.tail _ (.tail _ (.tail _ (.tail _ hq))))
  exact ⟨K.td, K.tb, K.lod, K.lob, K.db, K.d1, K.d2, K.b1, K.b2, fun q hq => K.rd q (offI_sub q hq), fun q hq => K.rb q (offI_sub q hq), fun q hq => K.r1 q (offI_sub q hq), fun q hq => K.r2 q (offI_sub q hq), tab_off K.te N' hI hd, tab_off K.tq N' hI hd⟩
theorem led_on {w : World} {d b : Addr} {o ob : Obj} {ps qs : Array Value} {rest : List (Addr × Obj)} {c : Bk} {I : Addr} {oI : Obj} (K : LedOk w d o b ob ps qs rest c) (h : ∀ q ∈ ledOf d o b ob ps qs rest, q.1 ≠ I) : LedOk w d o b ob ps qs ((I, oI) :: rest) c :=
  ⟨K.td, K.tb, K.lod, K.lob, K.db, K.d1, K.d2, K.b1, K.b2, List.forall_mem_cons.mpr ⟨Ne.symm (h _ (.head _)), K.rd⟩, List.forall_mem_cons.mpr ⟨Ne.symm (h _ (.tail _ (.head _))), K.rb⟩,
    List.forall_mem_cons.mpr ⟨Ne.symm (h _ (.tail _ (.tail _ (.head _)))), K.r1⟩, List.forall_mem_cons.mpr ⟨Ne.symm (h _ (.tail _ (.tail _ (.tail _ (.head _))))), K.r2⟩, K.te.sub fun q hq => .tail _ hq, K.tq.sub fun q hq => .tail _ hq⟩
theorem led_end {g h : Heap} {L d b I : Addr} {o ob oI : Obj} {ps qs : Array Value} {rest : List (Addr × Obj)} (N : News g L h (ledOf d o b ob ps qs rest)) (hI : (I, oI) ∈ rest) : News g L h ((I, oI) :: ledOf d o b ob ps qs (offI I rest)) := fun q hq => by
  rcases List.mem_cons.mp hq with rfl | hq
  · exact N _ (.tail _ (.tail _ (.tail _ (.tail _ hI))))
  · refine N q ?_
    rcases List.mem_cons.mp hq with rfl | hq
    · exact .head _
    · rcases List.mem_cons.mp hq with rfl | hq
      · exact .tail _ (.head _)
      · rcases List.mem_cons.mp hq with rfl | hq
        · exact .tail _ (.tail _ (.head _))
        · rcases List.mem_cons.mp hq with rfl | hq
          · exact .tail _ (.tail _ (.tail _ (.head _)))
          · exact .tail _ (.tail _ (.tail _ (.tail _ (offI_sub q hq))))
theorem led_ne {w : World} {d b I : Addr} {o ob oI : Obj} {ps qs : Array Value} {rest : List (Addr × Obj)} {c : Bk} (K : LedOk w d o b ob ps qs rest c) (hI : (I, oI) ∈ rest) : ∀ q ∈ ledOf d o b ob ps qs (offI I rest), q.1 ≠ I := fun q hq => by
  rcases List.mem_cons.mp hq with rfl | hq
  · exact Ne.symm (K.rd _ hI)
  · rcases List.mem_cons.mp hq with rfl | hq
    · exact Ne.symm (K.rb _ hI)
    · rcases List.mem_cons.mp hq with rfl | hq
      · exact Ne.symm (K.r1 _ hI)
      · rcases List.mem_cons.mp hq with rfl | hq
        · exact Ne.symm (K.r2 _ hI)
        · exact offI_ne q hq
theorem rows_nod {c : Bk} (h : Inv c) : ((rowsTo (allRows c)).map (·.1)).Nodup := ((rows_perm h).map _).nodup_iff.mpr h.nod
theorem rowA1 : pNum (Str.ofString "  0012  A") = 12 := by decide +kernel
theorem rowA2 : pRest (Str.ofString "  0012  A") = Str.ofString " A" := by decide +kernel
theorem rowB1 : Txt.slice (Str.ofString "A 12") (some (pB (Str.ofString "A 12"))) none = Str.ofString "A 12" := by decide +kernel
end Mine
end

/-! part P24 -/
section
open PySem PySem.W PyProof.Rows PyProof.V
open PySem.Spec PySem.Calls
set_option maxRecDepth 100000
set_option linter.unusedVariables false
namespace Mine
theorem fresh_P24 : True := by
  w_top off
  trivial
theorem prog_first {m : Str → Option Value} {d : Addr} (h : m (Str.ofString "program") = some (.ref d)) : m = fun y => if y = Str.ofString "program" then some (.ref d) else m y := funext fun y => by
  by_cases e : y = Str.ofString "program"
  · rw [if_pos e, e, h]
  · rw [if_neg e]
theorem some_nn {l : List Int} {n : Int} {k : Nat} (h : n ∈ l.map (fun k' => if k' < 0 then -k' else k') ++ [4 * (k : Int), 1]) : 0 ≤ n := by
  rcases List.mem_append.mp h with hn | hn
  · obtain ⟨k, _, rfl⟩ := List.mem_map.mp hn
    split <;> omega
  · simp at hn
    omega
section
local macro_rules | `(tactic| k_mem) => `(tactic| first | (with_reducible assumption) | exact List.mem_cons_self | (refine List.mem_cons_of_mem _ ?_; k_mem))
set_option maxHeartbeats 8000000 in
theorem tt : PySem.Challenge.rw_pc0001_01.Holds := hd (by
  k_go0
  all_goals (try k_fold)
  repeat' (first
    | (k_unfold; (try dsimp only))
    | (k_end; wrow_close)
    | ((with_reducible show LCg.CompSrc _ _ _ _ _ _ _ _ _ _ _ _ _ _); first | (with_reducible (((rename LedOk _ _ _ _ _ _ _ _ _ => lK'); refine heardHere ?_))) | (((rename LedOk _ _ _ _ _ _ _ _ _ => lK'); refine heardHere ?_)))
    | ((with_reducible show wpAny _ _ (eval (Expr.Lambda _ _ _ _) _) _ _ _); first | (with_reducible ((k_here; k_dflt (refine' lamL (rest := []) (by k_asm) (by exact newsSub (b := [(173, tabObj #[]), (161, tabObj _), (168, tabObj _)]) (by k_asm) (List.forall_mem_cons.mpr ⟨by k_mem, List.forall_mem_cons.mpr ⟨by k_mem, List.forall_mem_cons.mpr ⟨by k_mem, List.forall_mem_nil _⟩⟩⟩)) (by k_asm) (by with_reducible assumption) (by k_updF) (by exact tab_nil) (by exact fun _ hq => nomatch hq) (by exact rfl) (by exact rfl) ?_); intro _ _ _ _ _ _ _ _ _ _ N' _ _ l1' _; (have z2' := lt_hd l1'); (try dsimp only at N')))) | ((k_here; k_dflt (refine' lamL (rest := []) (by k_asm) (by exact newsSub (b := [(173, tabObj #[]), (161, tabObj _), (168, tabObj _)]) (by k_asm) (List.forall_mem_cons.mpr ⟨by k_mem, List.forall_mem_cons.mpr ⟨by k_mem, List.forall_mem_cons.mpr ⟨by k_mem, List.forall_mem_nil _⟩⟩⟩)) (by k_asm) (by with_reducible assumption) (by k_updF) (by exact tab_nil) (by exact fun _ hq => nomatch hq) (by exact rfl) (by exact rfl) ?_); intro _ _ _ _ _ _ _ _ _ _ N' _ _ l1' _; (have z2' := lt_hd l1'); (try dsimp only at N'))))
    | ((with_reducible show wpAny _ _ (call (Value.ref _) _) _ _ _); first | (with_reducible ((k_here; k_dflt (first | ((with_reducible show wpAny _ _ (call (Value.ref 171) _) _ _ _); refine heardHere ?_) | ((with_reducible show wpAny _ _ (call (Value.ref 145) _) _ _ _); refine heardHere ?_) | ((with_reducible show wpAny _ _ (call (Value.ref 72) _) _ _ _); refine heardHere ?_) | ((with_reducible show wpAny _ _ (call (Value.ref 103) _) _ _ _); refine heardHere ?_) | ((with_reducible show wpAny _ _ (call (Value.ref 96) _) _ _ _); refine' listed_rows_spec (by k_asm) (by k_asm) (by k_asm) (by k_asm) (by k_asm) (by rfl) (by first | exact room1 (by with_reducible assumption) (by decide) | ktr_room) (by first | exact units1 (by with_reducible assumption) (by decide) | ktr_units) _ _ _ _ _ _ _ (by k_mem) (by with_reducible assumption) (by with_reducible assumption) (by with_reducible assumption) ?_; intro _ _ _ _ _ _ _ _; (try k_fold)))))) | ((k_here; k_dflt (first | ((with_reducible show wpAny _ _ (call (Value.ref 171) _) _ _ _); refine heardHere ?_) | ((with_reducible show wpAny _ _ (call (Value.ref 145) _) _ _ _); refine heardHere ?_) | ((with_reducible show wpAny _ _ (call (Value.ref 72) _) _ _ _); refine heardHere ?_) | ((with_reducible show wpAny _ _ (call (Value.ref 103) _) _ _ _); refine heardHere ?_) | ((with_reducible show wpAny _ _ (call (Value.ref 96) _) _ _ _); refine' listed_rows_spec (by k_asm) (by k_asm) (by k_asm) (by k_asm) (by k_asm) (by rfl) (by first | exact room1 (by with_reducible assumption) (by decide) | ktr_room) (by first | exact units1 (by with_reducible assumption) (by decide) | ktr_units) _ _ _ _ _ _ _ (by k_mem) (by with_reducible assumption) (by with_reducible assumption) (by with_reducible assumption) ?_; intro _ _ _ _ _ _ _ _; (try k_fold))))))
    | (first | (with_reducible ((k_here; (with_reducible show wpAny _ _ (compareOp CmpOp.NotEq (Value.ref _) (Value.ref _)) _ _ _); k_dflt (first | (refine' (fun N m mb T Tb l lb p n u z1 => td_ne N m mb l lb T Tb p n u z1) (by k_asm) (by k_mem) (by k_mem) (by with_reducible assumption) (by with_reducible assumption) (by with_reducible assumption) (by with_reducible assumption) (by first | exact List.Perm.refl _ | with_reducible assumption) (by with_reducible assumption) (by units_room) ?_) | (refine' strs_ne (by k_asm) (by k_mem) (by k_mem) (by with_reducible assumption) (by with_reducible assumption) (by with_reducible assumption) (by units_room) ?_))))) | ((k_here; (with_reducible show wpAny _ _ (compareOp CmpOp.NotEq (Value.ref _) (Value.ref _)) _ _ _); k_dflt (first | (refine' (fun N m mb T Tb l lb p n u z1 => td_ne N m mb l lb T Tb p n u z1) (by k_asm) (by k_mem) (by k_mem) (by with_reducible assumption) (by with_reducible assumption) (by with_reducible assumption) (by with_reducible assumption) (by first | exact List.Perm.refl _ | with_reducible assumption) (by with_reducible assumption) (by units_room) ?_) | (refine' strs_ne (by k_asm) (by k_mem) (by k_mem) (by with_reducible assumption) (by with_reducible assumption) (by with_reducible assumption) (by units_room) ?_)))))
    | ((with_reducible show wpAny _ _ (subscriptTail (Expr.Name _ _) (Expr.Name _ _) (Value.ref _) (Value.int _ _)) _ _ _); first | (with_reducible ((k_here; k_dflt (refine' td_item (by k_asm) (by k_mem) (by with_reducible assumption) (by with_reducible assumption) (by with_reducible assumption) ?_ (by with_unfolding_all rfl) (by intro _; with_unfolding_all rfl); intro _)))) | ((k_here; k_dflt (refine' td_item (by k_asm) (by k_mem) (by with_reducible assumption) (by with_reducible assumption) (by with_reducible assumption) ?_ (by with_unfolding_all rfl) (by intro _; with_unfolding_all rfl); intro _))))
    | ((with_reducible show wpAny _ _ (call (Value.builtin "sorted") _) _ _ _); first | (with_reducible ((k_here; k_dflt (refine' td_sorted (by rfl) (by k_asm) (by k_asm) (by k_mem) (by with_reducible assumption) (by with_reducible assumption) (by with_reducible assumption) ?_); intro _ _ _ _ _ _ _ _ _))) | ((k_here; k_dflt (refine' td_sorted (by rfl) (by k_asm) (by k_asm) (by k_mem) (by with_reducible assumption) (by with_reducible assumption) (by with_reducible assumption) ?_); intro _ _ _ _ _ _ _ _ _)))
    | ((with_reducible show wpAny _ _ (eval (Expr.ListComp _ _ _ _) _) _ _ _); first | (with_reducible ((k_here; (with_reducible show wpAny _ _ (eval (Expr.ListComp (Expr.BinOp _ _ _ _) _ _ _) _) _ _ _); k_dflt (refine LCg.ListComp_U (F₀ := by k_asm) (by with_unfolding_all rfl) (by decide) (by rfl) (by decide) (by rfl) ?_)))) | ((k_here; (with_reducible show wpAny _ _ (eval (Expr.ListComp (Expr.BinOp _ _ _ _) _ _ _) _) _ _ _); k_dflt (refine LCg.ListComp_U (F₀ := by k_asm) (by with_unfolding_all rfl) (by decide) (by rfl) (by decide) (by rfl) ?_))))
    | (first | (with_reducible ((k_here; (with_reducible show wpAny _ _ (eval (Expr.Call (Expr.Name _ _) _ [] _) _) _ _ _); k_dflt (refine Call_ ?_)))) | ((k_here; (with_reducible show wpAny _ _ (eval (Expr.Call (Expr.Name _ _) _ [] _) _) _ _ _); k_dflt (refine Call_ ?_))))
    | ((with_reducible show wpAny _ _ (pyIter (Value.ref _)) _ _ _); first | (with_reducible ((k_here; k_dflt (refine heardHere ?_)))) | ((k_here; k_dflt (refine heardHere ?_))))
    | ((with_reducible show wpAny _ _ (exec (Stmt.For (Expr.Name _ _) (Expr.Name _ _) _ [] _) _) _ _ _); first | (with_reducible ((k_here; (rename Fr _ _ _ _ => lF'); (with_unfolding_all refine' For_invVF lF' ?k1 ?k2 ?_; (case k1 => exact rfl); (case k2 => exact rfl); k_whole)))) | ((k_here; (rename Fr _ _ _ _ => lF'); (with_unfolding_all refine' For_invVF lF' ?k1 ?k2 ?_; (case k1 => exact rfl); (case k2 => exact rfl); k_whole))))
    | ((with_reducible show wpAny _ _ (storeName _ _ _) _ _ _); k_here; k_dflt (first | (refine' storeAI s1 (by rfl) (by rfl) (by k_asm) (by k_asm) rfl rfl rfl ?_; k_whole; intro _ _ _ _ _) | (refine' storeAS s1 (by rfl) (by rfl) (by k_asm) (by k_asm) rfl rfl rfl ?_; k_whole; intro _ _ _ _ _) | (refine' storeA s1 (by rfl) (by rfl) (by k_asm) (by k_asm) rfl rfl rfl ?_; k_whole; intro _ _ _ _)); (try k_sweep))
    | ((with_reducible show wpAny _ _ (exec _ _) _ _ _); k_here; k_dflt (refine' anchorE s1 (by k_asm) rfl rfl rfl rfl ?_; k_whole; intro _); (try k_fold); walk1)
    | ((with_reducible show wpAny _ _ (exec _ _) _ _ _); k_here; k_fold; walk1)
    | walk1
    | (dsimp only; walk1)
    | (leave1; walk_say "STEP leave1"; try dsimp only)
    | fail "no step")
  unfold HeardHere
  rename_i jw0 js0 s1 jmg jmb jG jY fa jo jpm jdoc jho jhg jX jV jT jB jTE jTW jhcd jw6 jhs jhlay jhL1 jhr1 jhl2 jw5 jw4 jw3 jw2 jw1 jhL jra jwe jr0 jhI jhr jhc1 jhc2 jhD jh1 jtk1 jw jright jX0 XG TG BG jc1 jc2 jl0 _ _ jD3 jws1 jh10 jhI1 jhC1 jhL2 jl15 jkl1 jkl jg jhI8 jhL8 jD2 jh9 jtk2 jo1 jl jh8 jl14 D1' ws' jh7 iL' jl13 jh6 jtk3 d' jh5 o' lod' jhs1 jfs1 hid' jfi1 ld' b' jh4 ob' lob' jhs2 jfs2 hib' jfi2 lb' DT' jh3 lt' jh2 jh11 jh0 oc' N' hoc'
  rename Fr _ _ _ _ => F'
  have CL := chd175 XG
  refine' iter_grow (LawJ jw0 d' b' [(s1.heap.objs.size + 1, oc'), (D1', listOf ws'.toArray 0), (173, tabObj #[])]) ?hh iL' F' (newsSub N' ?sub) ⟨o', ob', #[], #[], [(s1.heap.objs.size + 1, oc'), (D1', listOf ws'.toArray 0), (173, tabObj #[])], [], _, rfl, ?led, inv_nil, fun q h => h, ?m0⟩ ?hl ?turn ?done
  case hh => rfl
  case sub =>
    intro q hq
    refine (List.forall_mem_cons.mpr ⟨?_, List.forall_mem_cons.mpr ⟨?_, List.forall_mem_cons.mpr ⟨?_, List.forall_mem_cons.mpr ⟨?_, List.forall_mem_cons.mpr ⟨?_, List.forall_mem_cons.mpr ⟨?_, List.forall_mem_cons.mpr ⟨?_, List.forall_mem_nil _⟩⟩⟩⟩⟩⟩⟩ : ∀ q ∈ ledOf d' o' b' ob' #[] #[] [(s1.heap.objs.size + 1, oc'), (D1', listOf ws'.toArray 0), (173, tabObj #[])], q ∈ _) q hq
    all_goals k_mem
  case led =>
    obtain ⟨_, _, _, _, e1, e2, e3, e4⟩ := ld'
    obtain ⟨f0, f1, _, _, _, f5, f6, f7, f8⟩ := lb'
    have g1 := neN (Nat.ne_of_lt f0)
    exact ⟨td_empty hid', td_empty hib', lod', lob', Nat.ne_of_lt f0, Nat.ne_of_gt e2, Nat.ne_of_gt e3, Nat.ne_of_gt f6, Nat.ne_of_gt f7,
      List.forall_mem_cons.mpr ⟨Nat.ne_of_lt e1, List.forall_mem_cons.mpr ⟨Nat.ne_of_lt (by assumption), List.forall_mem_cons.mpr ⟨Nat.ne_of_lt e4, List.forall_mem_nil _⟩⟩⟩,
      List.forall_mem_cons.mpr ⟨Nat.ne_of_lt f5, List.forall_mem_cons.mpr ⟨Nat.ne_of_lt f1, List.forall_mem_cons.mpr ⟨Nat.ne_of_lt f8, List.forall_mem_nil _⟩⟩⟩,
      List.forall_mem_cons.mpr ⟨Nat.ne_of_gt (Nat.lt_succ_of_lt jl0.1), List.forall_mem_cons.mpr ⟨Nat.ne_of_gt jl13.2.2.2.2.1, List.forall_mem_cons.mpr ⟨by decide, List.forall_mem_nil _⟩⟩⟩,
      List.forall_mem_cons.mpr ⟨Nat.ne_of_gt (Nat.lt_succ_of_lt jl0.2.1), List.forall_mem_cons.mpr ⟨Nat.ne_of_gt jl13.2.2.2.2.2.1, List.forall_mem_cons.mpr ⟨by decide, List.forall_mem_nil _⟩⟩⟩, tab_nil, tab_nil⟩
  case m0 =>
    exact rfl
  case hl =>
    rintro m nx ⟨o, ob, ps, qs, rest, c, u, rfl, K, Iv, hb, rfl⟩
    exact .tail _ (.tail _ (.tail _ (.tail _ (hb _ (.tail _ (.head _))))))
  case turn =>
    rintro n t m₁ nx I oI h1 tk1 hn ⟨ki, hoI⟩ hI ⟨o, ob, ps, qs, rest, c, u, rfl, K, Iv, hb, rfl⟩ F1 N1
    have hn0 := some_nn hn
    have hcell := hb _ (.head _)
    clear hn iL' jG jY jho jhg hT8 jX jV jT jB jTE jTW hT9 jhcd jhs jhlay jhL1 jhr1 jhl2 jhL jra jwe jr0 jhI jhr jhc1 jhc2 jhD jright jX0 lifted jc1 jc2 codeHd jl0 jhI1 jhC1 jhL2 jl15 jkl1 jkl jhI8 jhL8 jo1 jl14 jl13 lod' jhs1 jfs1 hid' jfi1 ld' lob' jhs2 jfs2 hib' jfi2 lb' lt' F' N'
    repeat' (first
      | (k_unfold; (try dsimp only))
      | (k_end; wrow_close)
      | ((with_reducible show LCg.CompSrc _ _ _ _ _ _ _ _ _ _ _ _ _ _); first | (with_reducible (((rename LedOk _ _ _ _ _ _ _ _ _ => lK'); refine heardHere ?_))) | (((rename LedOk _ _ _ _ _ _ _ _ _ => lK'); refine heardHere ?_)))
      | ((with_reducible show wpAny _ _ (eval (Expr.Lambda _ _ _ _) _) _ _ _); first | (with_reducible ((k_here; k_dflt (refine' lamL (rest := []) (by k_asm) (by exact newsSub (b := [(173, tabObj #[]), (161, tabObj _), (168, tabObj _)]) (by k_asm) (List.forall_mem_cons.mpr ⟨by k_mem, List.forall_mem_cons.mpr ⟨by k_mem, List.forall_mem_cons.mpr ⟨by k_mem, List.forall_mem_nil _⟩⟩⟩)) (by k_asm) (by with_reducible assumption) (by k_updF) (by exact tab_nil) (by exact fun _ hq => nomatch hq) (by exact rfl) (by exact rfl) ?_); intro _ _ _ _ _ _ _ _ _ _ N' _ _ l1' _; (have z2' := lt_hd l1'); (try dsimp only at N')))) | ((k_here; k_dflt (refine' lamL (rest := []) (by k_asm) (by exact newsSub (b := [(173, tabObj #[]), (161, tabObj _), (168, tabObj _)]) (by k_asm) (List.forall_mem_cons.mpr ⟨by k_mem, List.forall_mem_cons.mpr ⟨by k_mem, List.forall_mem_cons.mpr ⟨by k_mem, List.forall_mem_nil _⟩⟩⟩)) (by k_asm) (by with_reducible assumption) (by k_updF) (by exact tab_nil) (by exact fun _ hq => nomatch hq) (by exact rfl) (by exact rfl) ?_); intro _ _ _ _ _ _ _ _ _ _ N' _ _ l1' _; (have z2' := lt_hd l1'); (try dsimp only at N'))))
      | ((with_reducible show wpAny _ _ (call (Value.ref _) _) _ _ _); first | (with_reducible ((k_here; k_dflt (first | ((with_reducible show wpAny _ _ (call (Value.ref 171) _) _ _ _); refine heardHere ?_) | ((with_reducible show wpAny _ _ (call (Value.ref 145) _) _ _ _); refine heardHere ?_) | ((with_reducible show wpAny _ _ (call (Value.ref 72) _) _ _ _); refine heardHere ?_) | ((with_reducible show wpAny _ _ (call (Value.ref 103) _) _ _ _); refine heardHere ?_) | ((with_reducible show wpAny _ _ (call (Value.ref 96) _) _ _ _); refine' listed_rows_spec (by k_asm) (by k_asm) (by k_asm) (by k_asm) (by k_asm) (by rfl) (by first | exact room1 (by with_reducible assumption) (by decide) | ktr_room) (by first | exact units1 (by with_reducible assumption) (by decide) | ktr_units) _ _ _ _ _ _ _ (by k_mem) (by with_reducible assumption) (by with_reducible assumption) (by with_reducible assumption) ?_; intro _ _ _ _ _ _ _ _; (try k_fold)))))) | ((k_here; k_dflt (first | ((with_reducible show wpAny _ _ (call (Value.ref 171) _) _ _ _); refine heardHere ?_) | ((with_reducible show wpAny _ _ (call (Value.ref 145) _) _ _ _); refine heardHere ?_) | ((with_reducible show wpAny _ _ (call (Value.ref 72) _) _ _ _); refine heardHere ?_) | ((with_reducible show wpAny _ _ (call (Value.ref 103) _) _ _ _); refine heardHere ?_) | ((with_reducible show wpAny _ _ (call (Value.ref 96) _) _ _ _); refine' listed_rows_spec (by k_asm) (by k_asm) (by k_asm) (by k_asm) (by k_asm) (by rfl) (by first | exact room1 (by with_reducible assumption) (by decide) | ktr_room) (by first | exact units1 (by with_reducible assumption) (by decide) | ktr_units) _ _ _ _ _ _ _ (by k_mem) (by with_reducible assumption) (by with_reducible assumption) (by with_reducible assumption) ?_; intro _ _ _ _ _ _ _ _; (try k_fold))))))
      | (first | (with_reducible ((k_here; (with_reducible show wpAny _ _ (compareOp CmpOp.NotEq (Value.ref _) (Value.ref _)) _ _ _); k_dflt (first | (refine' (fun N m mb T Tb l lb p n u z1 => td_ne N m mb l lb T Tb p n u z1) (by k_asm) (by k_mem) (by k_mem) (by with_reducible assumption) (by with_reducible assumption) (by with_reducible assumption) (by with_reducible assumption) (by first | exact List.Perm.refl _ | with_reducible assumption) (by with_reducible assumption) (by units_room) ?_) | (refine' strs_ne (by k_asm) (by k_mem) (by k_mem) (by with_reducible assumption) (by with_reducible assumption) (by with_reducible assumption) (by units_room) ?_))))) | ((k_here; (with_reducible show wpAny _ _ (compareOp CmpOp.NotEq (Value.ref _) (Value.ref _)) _ _ _); k_dflt (first | (refine' (fun N m mb T Tb l lb p n u z1 => td_ne N m mb l lb T Tb p n u z1) (by k_asm) (by k_mem) (by k_mem) (by with_reducible assumption) (by with_reducible assumption) (by with_reducible assumption) (by with_reducible assumption) (by first | exact List.Perm.refl _ | with_reducible assumption) (by with_reducible assumption) (by units_room) ?_) | (refine' strs_ne (by k_asm) (by k_mem) (by k_mem) (by with_reducible assumption) (by with_reducible assumption) (by with_reducible assumption) (by units_room) ?_)))))
      | ((with_reducible show wpAny _ _ (subscriptTail (Expr.Name _ _) (Expr.Name _ _) (Value.ref _) (Value.int _ _)) _ _ _); first | (with_reducible ((k_here; k_dflt (refine' td_item (by k_asm) (by k_mem) (by with_reducible assumption) (by with_reducible assumption) (by with_reducible assumption) ?_ (by with_unfolding_all rfl) (by intro _; with_unfolding_all rfl); intro _)))) | ((k_here; k_dflt (refine' td_item (by k_asm) (by k_mem) (by with_reducible assumption) (by with_reducible assumption) (by with_reducible assumption) ?_ (by with_unfolding_all rfl) (by intro _; with_unfolding_all rfl); intro _))))
      | ((with_reducible show wpAny _ _ (call (Value.builtin "sorted") _) _ _ _); first | (with_reducible ((k_here; k_dflt (refine' td_sorted (by rfl) (by k_asm) (by k_asm) (by k_mem) (by with_reducible assumption) (by with_reducible assumption) (by with_reducible assumption) ?_); intro _ _ _ _ _ _ _ _ _))) | ((k_here; k_dflt (refine' td_sorted (by rfl) (by k_asm) (by k_asm) (by k_mem) (by with_reducible assumption) (by with_reducible assumption) (by with_reducible assumption) ?_); intro _ _ _ _ _ _ _ _ _)))
      | ((with_reducible show wpAny _ _ (eval (Expr.ListComp _ _ _ _) _) _ _ _); first | (with_reducible ((k_here; (with_reducible show wpAny _ _ (eval (Expr.ListComp (Expr.BinOp _ _ _ _) _ _ _) _) _ _ _); k_dflt (refine LCg.ListComp_U (F₀ := by k_asm) (by with_unfolding_all rfl) (by decide) (by rfl) (by decide) (by rfl) ?_)))) | ((k_here; (with_reducible show wpAny _ _ (eval (Expr.ListComp (Expr.BinOp _ _ _ _) _ _ _) _) _ _ _); k_dflt (refine LCg.ListComp_U (F₀ := by k_asm) (by with_unfolding_all rfl) (by decide) (by rfl) (by decide) (by rfl) ?_))))
      | (first | (with_reducible ((k_here; (with_reducible show wpAny _ _ (eval (Expr.Call (Expr.Name _ _) _ [] _) _) _ _ _); k_dflt (refine Call_ ?_)))) | ((k_here; (with_reducible show wpAny _ _ (eval (Expr.Call (Expr.Name _ _) _ [] _) _) _ _ _); k_dflt (refine Call_ ?_))))
      | ((with_reducible show wpAny _ _ (pyIter (Value.ref _)) _ _ _); first | (with_reducible ((k_here; k_dflt (refine heardHere ?_)))) | ((k_here; k_dflt (refine heardHere ?_))))
      | ((with_reducible show wpAny _ _ (exec (Stmt.For (Expr.Name _ _) (Expr.Name _ _) _ [] _) _) _ _ _); first | (with_reducible ((k_here; (rename Fr _ _ _ _ => lF'); (with_unfolding_all refine' For_invVF lF' ?k1 ?k2 ?_; (case k1 => exact rfl); (case k2 => exact rfl); k_whole)))) | ((k_here; (rename Fr _ _ _ _ => lF'); (with_unfolding_all refine' For_invVF lF' ?k1 ?k2 ?_; (case k1 => exact rfl); (case k2 => exact rfl); k_whole))))
      | ((with_reducible show wpAny _ _ (storeName _ _ _) _ _ _); k_here; k_dflt (first | (refine' storeAI s1 (by rfl) (by rfl) (by k_asm) (by k_asm) rfl rfl rfl ?_; k_whole; intro _ _ _ _ _) | (refine' storeAS s1 (by rfl) (by rfl) (by k_asm) (by k_asm) rfl rfl rfl ?_; k_whole; intro _ _ _ _ _) | (refine' storeA s1 (by rfl) (by rfl) (by k_asm) (by k_asm) rfl rfl rfl ?_; k_whole; intro _ _ _ _)); (try k_sweep))
      | ((with_reducible show wpAny _ _ (exec _ _) _ _ _); k_here; k_dflt (refine' anchorE s1 (by k_asm) rfl rfl rfl rfl ?_; k_whole; intro _); (try k_fold); walk1)
      | ((with_reducible show wpAny _ _ (exec _ _) _ _ _); k_here; k_fold; walk1)
      | walk1
      | (dsimp only; walk1)
      | (leave1; walk_say "STEP leave1"; try dsimp only)
      | fail "no step")
    unfold HeardHere
    refine' law_deed_spec BG ?Fd XG TG XG TG ktsDicts_nil rfl ?dd ?ud d' o b' ob ps qs ((I, oI) :: rest) c (newsSub N1 ?sd) (led_on K hI) Iv n t hn0 ?rd
    case Fd => k_asm
    case dd => ktr_room
    case ud => ktr_units
    case sd =>
      intro q hq
      exact (List.forall_mem_cons.mpr ⟨by k_mem, List.forall_mem_cons.mpr ⟨by k_mem, List.forall_mem_cons.mpr ⟨by k_mem, List.forall_mem_cons.mpr ⟨by k_mem, List.forall_mem_cons.mpr ⟨by k_mem, fun q hq => by repeat (first | exact hq | apply List.mem_cons_of_mem)⟩⟩⟩⟩⟩ : ∀ q ∈ ledOf d' o b' ob ps qs ((I, oI) :: rest), q ∈ _) q hq
    case rd =>
      intro h₀' o1 ob1 ps1 qs1 rest1 c1 h2 tk2 z1 z2 z3 z4 z5 K1 I1 sub1
      have F2 := turn_nil_fr z1 z4
      have N2 := turn_nil_news z1 z5
      have hc1 := sub1 _ (.tail _ hcell)
      have hb1 : ∀ q ∈ [(s1.heap.objs.size + 1, oc'), (D1', listOf ws'.toArray 0), (173, tabObj #[])], q ∈ rest1 := fun q hq => sub1 _ (.tail _ (hb q hq))
      have hI1 := sub1 _ (.head _)
      have hnb : ∀ q ∈ [(s1.heap.objs.size + 1, oc'), (D1', listOf ws'.toArray 0), (173, tabObj #[])], q.1 ≠ I := fun q hq => hI q (.tail _ (.tail _ (.tail _ (.tail _ (hb q hq)))))
      clear z1 z2 z3 z4 z5 F1 N1 K Iv hb hI hcell sub1
      have K0 := K1
      obtain ⟨td, tb, lod, lob, db, d1, d2, b1, b2, rd, rb, r1, r2, te, tq⟩ := K1
      have ok1 := inv_ok I1
      have hlen := ok1.len
      have kn1 : (c1.map (·.1)).Nodup := I1.nod
      have pr1 := rows_perm I1
      have kn2 := rows_nod I1
      have so1 : ∀ x ∈ (within c1 0 65529).map (rowAt c1), PyData.strOk x = true := rows_strOk I1
      have skl : (skeys c1).length < 64 := by rw [← within_all I1]; exact within_len hlen
      have db := neN db
      repeat' (first
        | (k_unfold; (try dsimp only))
        | (k_end; wrow_close)
        | ((with_reducible show LCg.CompSrc _ _ _ _ _ _ _ _ _ _ _ _ _ _); first | (with_reducible (((rename LedOk _ _ _ _ _ _ _ _ _ => lK'); refine heardHere ?_))) | (((rename LedOk _ _ _ _ _ _ _ _ _ => lK'); refine heardHere ?_)))
        | ((with_reducible show wpAny _ _ (eval (Expr.Lambda _ _ _ _) _) _ _ _); first | (with_reducible ((k_here; k_dflt (refine' lamL (rest := []) (by k_asm) (by exact newsSub (b := [(173, tabObj #[]), (161, tabObj _), (168, tabObj _)]) (by k_asm) (List.forall_mem_cons.mpr ⟨by k_mem, List.forall_mem_cons.mpr ⟨by k_mem, List.forall_mem_cons.mpr ⟨by k_mem, List.forall_mem_nil _⟩⟩⟩)) (by k_asm) (by with_reducible assumption) (by k_updF) (by exact tab_nil) (by exact fun _ hq => nomatch hq) (by exact rfl) (by exact rfl) ?_); intro _ _ _ _ _ _ _ _ _ _ N' _ _ l1' _; (have z2' := lt_hd l1'); (try dsimp only at N')))) | ((k_here; k_dflt (refine' lamL (rest := []) (by k_asm) (by exact newsSub (b := [(173, tabObj #[]), (161, tabObj _), (168, tabObj _)]) (by k_asm) (List.forall_mem_cons.mpr ⟨by k_mem, List.forall_mem_cons.mpr ⟨by k_mem, List.forall_mem_cons.mpr ⟨by k_mem, List.forall_mem_nil _⟩⟩⟩)) (by k_asm) (by with_reducible assumption) (by k_updF) (by exact tab_nil) (by exact fun _ hq => nomatch hq) (by exact rfl) (by exact rfl) ?_); intro _ _ _ _ _ _ _ _ _ _ N' _ _ l1' _; (have z2' := lt_hd l1'); (try dsimp only at N'))))
        | ((with_reducible show wpAny _ _ (call (Value.ref _) _) _ _ _); first | (with_reducible ((k_here; k_dflt (first | ((with_reducible show wpAny _ _ (call (Value.ref 171) _) _ _ _); refine heardHere ?_) | ((with_reducible show wpAny _ _ (call (Value.ref 145) _) _ _ _); refine heardHere ?_) | ((with_reducible show wpAny _ _ (call (Value.ref 72) _) _ _ _); refine heardHere ?_) | ((with_reducible show wpAny _ _ (call (Value.ref 103) _) _ _ _); refine heardHere ?_) | ((with_reducible show wpAny _ _ (call (Value.ref 96) _) _ _ _); refine' listed_rows_spec (by k_asm) (by k_asm) (by k_asm) (by k_asm) (by k_asm) (by rfl) (by first | exact room1 (by with_reducible assumption) (by decide) | ktr_room) (by first | exact units1 (by with_reducible assumption) (by decide) | ktr_units) _ _ _ _ _ _ _ (by k_mem) (by with_reducible assumption) (by with_reducible assumption) (by with_reducible assumption) ?_; intro _ _ _ _ _ _ _ _; (try k_fold)))))) | ((k_here; k_dflt (first | ((with_reducible show wpAny _ _ (call (Value.ref 171) _) _ _ _); refine heardHere ?_) | ((with_reducible show wpAny _ _ (call (Value.ref 145) _) _ _ _); refine heardHere ?_) | ((with_reducible show wpAny _ _ (call (Value.ref 72) _) _ _ _); refine heardHere ?_) | ((with_reducible show wpAny _ _ (call (Value.ref 103) _) _ _ _); refine heardHere ?_) | ((with_reducible show wpAny _ _ (call (Value.ref 96) _) _ _ _); refine' listed_rows_spec (by k_asm) (by k_asm) (by k_asm) (by k_asm) (by k_asm) (by rfl) (by first | exact room1 (by with_reducible assumption) (by decide) | ktr_room) (by first | exact units1 (by with_reducible assumption) (by decide) | ktr_units) _ _ _ _ _ _ _ (by k_mem) (by with_reducible assumption) (by with_reducible assumption) (by with_reducible assumption) ?_; intro _ _ _ _ _ _ _ _; (try k_fold))))))
        | (first | (with_reducible ((k_here; (with_reducible show wpAny _ _ (compareOp CmpOp.NotEq (Value.ref _) (Value.ref _)) _ _ _); k_dflt (first | (refine' (fun N m mb T Tb l lb p n u z1 => td_ne N m mb l lb T Tb p n u z1) (by k_asm) (by k_mem) (by k_mem) (by with_reducible assumption) (by with_reducible assumption) (by with_reducible assumption) (by with_reducible assumption) (by first | exact List.Perm.refl _ | with_reducible assumption) (by with_reducible assumption) (by units_room) ?_) | (refine' strs_ne (by k_asm) (by k_mem) (by k_mem) (by with_reducible assumption) (by with_reducible assumption) (by with_reducible assumption) (by units_room) ?_))))) | ((k_here; (with_reducible show wpAny _ _ (compareOp CmpOp.NotEq (Value.ref _) (Value.ref _)) _ _ _); k_dflt (first | (refine' (fun N m mb T Tb l lb p n u z1 => td_ne N m mb l lb T Tb p n u z1) (by k_asm) (by k_mem) (by k_mem) (by with_reducible assumption) (by with_reducible assumption) (by with_reducible assumption) (by with_reducible assumption) (by first | exact List.Perm.refl _ | with_reducible assumption) (by with_reducible assumption) (by units_room) ?_) | (refine' strs_ne (by k_asm) (by k_mem) (by k_mem) (by with_reducible assumption) (by with_reducible assumption) (by with_reducible assumption) (by units_room) ?_)))))
        | ((with_reducible show wpAny _ _ (subscriptTail (Expr.Name _ _) (Expr.Name _ _) (Value.ref _) (Value.int _ _)) _ _ _); first | (with_reducible ((k_here; k_dflt (refine' td_item (by k_asm) (by k_mem) (by with_reducible assumption) (by with_reducible assumption) (by with_reducible assumption) ?_ (by with_unfolding_all rfl) (by intro _; with_unfolding_all rfl); intro _)))) | ((k_here; k_dflt (refine' td_item (by k_asm) (by k_mem) (by with_reducible assumption) (by with_reducible assumption) (by with_reducible assumption) ?_ (by with_unfolding_all rfl) (by intro _; with_unfolding_all rfl); intro _))))
        | ((with_reducible show wpAny _ _ (call (Value.builtin "sorted") _) _ _ _); first | (with_reducible ((k_here; k_dflt (refine' td_sorted (by rfl) (by k_asm) (by k_asm) (by k_mem) (by with_reducible assumption) (by with_reducible assumption) (by with_reducible assumption) ?_); intro _ _ _ _ _ _ _ _ _))) | ((k_here; k_dflt (refine' td_sorted (by rfl) (by k_asm) (by k_asm) (by k_mem) (by with_reducible assumption) (by with_reducible assumption) (by with_reducible assumption) ?_); intro _ _ _ _ _ _ _ _ _)))
        | ((with_reducible show wpAny _ _ (eval (Expr.ListComp _ _ _ _) _) _ _ _); first | (with_reducible ((k_here; (with_reducible show wpAny _ _ (eval (Expr.ListComp (Expr.BinOp _ _ _ _) _ _ _) _) _ _ _); k_dflt (refine LCg.ListComp_U (F₀ := by k_asm) (by with_unfolding_all rfl) (by decide) (by rfl) (by decide) (by rfl) ?_)))) | ((k_here; (with_reducible show wpAny _ _ (eval (Expr.ListComp (Expr.BinOp _ _ _ _) _ _ _) _) _ _ _); k_dflt (refine LCg.ListComp_U (F₀ := by k_asm) (by with_unfolding_all rfl) (by decide) (by rfl) (by decide) (by rfl) ?_))))
        | (first | (with_reducible ((k_here; (with_reducible show wpAny _ _ (eval (Expr.Call (Expr.Name _ _) _ [] _) _) _ _ _); k_dflt (refine Call_ ?_)))) | ((k_here; (with_reducible show wpAny _ _ (eval (Expr.Call (Expr.Name _ _) _ [] _) _) _ _ _); k_dflt (refine Call_ ?_))))
        | ((with_reducible show wpAny _ _ (pyIter (Value.ref _)) _ _ _); first | (with_reducible ((k_here; k_dflt (refine heardHere ?_)))) | ((k_here; k_dflt (refine heardHere ?_))))
        | ((with_reducible show wpAny _ _ (exec (Stmt.For (Expr.Name _ _) (Expr.Name _ _) _ [] _) _) _ _ _); first | (with_reducible ((k_here; (rename Fr _ _ _ _ => lF'); (with_unfolding_all refine' For_invVF lF' ?k1 ?k2 ?_; (case k1 => exact rfl); (case k2 => exact rfl); k_whole)))) | ((k_here; (rename Fr _ _ _ _ => lF'); (with_unfolding_all refine' For_invVF lF' ?k1 ?k2 ?_; (case k1 => exact rfl); (case k2 => exact rfl); k_whole))))
        | ((with_reducible show wpAny _ _ (storeName _ _ _) _ _ _); k_here; k_dflt (first | (refine' storeAI s1 (by rfl) (by rfl) (by k_asm) (by k_asm) rfl rfl rfl ?_; k_whole; intro _ _ _ _ _) | (refine' storeAS s1 (by rfl) (by rfl) (by k_asm) (by k_asm) rfl rfl rfl ?_; k_whole; intro _ _ _ _ _) | (refine' storeA s1 (by rfl) (by rfl) (by k_asm) (by k_asm) rfl rfl rfl ?_; k_whole; intro _ _ _ _)); (try k_sweep))
        | ((with_reducible show wpAny _ _ (exec _ _) _ _ _); k_here; k_dflt (refine' anchorE s1 (by k_asm) rfl rfl rfl rfl ?_; k_whole; intro _); (try k_fold); walk1)
        | ((with_reducible show wpAny _ _ (exec _ _) _ _ _); k_here; k_fold; walk1)
        | walk1
        | (dsimp only; walk1)
        | (leave1; walk_say "STEP leave1"; try dsimp only)
        | fail "no step")
      rename StrsAre _ _ => hvr
      rename LedOk _ _ _ _ _ _ _ _ _ => K0
      unfold HeardHere
      refine' LCg.CompSrc.ledger ?ca ?cb ?cc ?cd ?ce ?_
      case ca => rfl
      case cb => k_asm
      case cc => k_asm
      case cd => k_mem
      case ce => exact ints_sz (by with_reducible assumption) skl
      intro g'
      refine lcs_list (rowAt c1) (by with_reducible assumption) (fun k' t' I' oI' C' oC' D' m' ys' h' tk' E' hk' hC' hx' F' N' off' ne' => ?_) ?_
      · obtain ⟨tx, htx, hra, hlk⟩ := row_at I1 hk'
        have hk0 := ok1.low _ htx
        have hk1 := ok1.top _ htx
        have htl := ok1.txt _ htx
        simp only at hk0 hk1 htl
        repeat' (first
          | (k_unfold; (try dsimp only))
          | (k_end; wrow_close)
          | ((with_reducible show LCg.CompSrc _ _ _ _ _ _ _ _ _ _ _ _ _ _); first | (with_reducible (((rename LedOk _ _ _ _ _ _ _ _ _ => lK'); refine heardHere ?_))) | (((rename LedOk _ _ _ _ _ _ _ _ _ => lK'); refine heardHere ?_)))
          | ((with_reducible show wpAny _ _ (eval (Expr.Lambda _ _ _ _) _) _ _ _); first | (with_reducible ((k_here; k_dflt (refine' lamL (rest := []) (by k_asm) (by exact newsSub (b := [(173, tabObj #[]), (161, tabObj _), (168, tabObj _)]) (by k_asm) (List.forall_mem_cons.mpr ⟨by k_mem, List.forall_mem_cons.mpr ⟨by k_mem, List.forall_mem_cons.mpr ⟨by k_mem, List.forall_mem_nil _⟩⟩⟩)) (by k_asm) (by with_reducible assumption) (by k_updF) (by exact tab_nil) (by exact fun _ hq => nomatch hq) (by exact rfl) (by exact rfl) ?_); intro _ _ _ _ _ _ _ _ _ _ N' _ _ l1' _; (have z2' := lt_hd l1'); (try dsimp only at N')))) | ((k_here; k_dflt (refine' lamL (rest := []) (by k_asm) (by exact newsSub (b := [(173, tabObj #[]), (161, tabObj _), (168, tabObj _)]) (by k_asm) (List.forall_mem_cons.mpr ⟨by k_mem, List.forall_mem_cons.mpr ⟨by k_mem, List.forall_mem_cons.mpr ⟨by k_mem, List.forall_mem_nil _⟩⟩⟩)) (by k_asm) (by with_reducible assumption) (by k_updF) (by exact tab_nil) (by exact fun _ hq => nomatch hq) (by exact rfl) (by exact rfl) ?_); intro _ _ _ _ _ _ _ _ _ _ N' _ _ l1' _; (have z2' := lt_hd l1'); (try dsimp only at N'))))
          | ((with_reducible show wpAny _ _ (call (Value.ref _) _) _ _ _); first | (with_reducible ((k_here; k_dflt (first | ((with_reducible show wpAny _ _ (call (Value.ref 171) _) _ _ _); refine heardHere ?_) | ((with_reducible show wpAny _ _ (call (Value.ref 145) _) _ _ _); refine heardHere ?_) | ((with_reducible show wpAny _ _ (call (Value.ref 72) _) _ _ _); refine heardHere ?_) | ((with_reducible show wpAny _ _ (call (Value.ref 103) _) _ _ _); refine heardHere ?_) | ((with_reducible show wpAny _ _ (call (Value.ref 96) _) _ _ _); refine' listed_rows_spec (by k_asm) (by k_asm) (by k_asm) (by k_asm) (by k_asm) (by rfl) (by first | exact room1 (by with_reducible assumption) (by decide) | ktr_room) (by first | exact units1 (by with_reducible assumption) (by decide) | ktr_units) _ _ _ _ _ _ _ (by k_mem) (by with_reducible assumption) (by with_reducible assumption) (by with_reducible assumption) ?_; intro _ _ _ _ _ _ _ _; (try k_fold)))))) | ((k_here; k_dflt (first | ((with_reducible show wpAny _ _ (call (Value.ref 171) _) _ _ _); refine heardHere ?_) | ((with_reducible show wpAny _ _ (call (Value.ref 145) _) _ _ _); refine heardHere ?_) | ((with_reducible show wpAny _ _ (call (Value.ref 72) _) _ _ _); refine heardHere ?_) | ((with_reducible show wpAny _ _ (call (Value.ref 103) _) _ _ _); refine heardHere ?_) | ((with_reducible show wpAny _ _ (call (Value.ref 96) _) _ _ _); refine' listed_rows_spec (by k_asm) (by k_asm) (by k_asm) (by k_asm) (by k_asm) (by rfl) (by first | exact room1 (by with_reducible assumption) (by decide) | ktr_room) (by first | exact units1 (by with_reducible assumption) (by decide) | ktr_units) _ _ _ _ _ _ _ (by k_mem) (by with_reducible assumption) (by with_reducible assumption) (by with_reducible assumption) ?_; intro _ _ _ _ _ _ _ _; (try k_fold))))))
          | (first | (with_reducible ((k_here; (with_reducible show wpAny _ _ (compareOp CmpOp.NotEq (Value.ref _) (Value.ref _)) _ _ _); k_dflt (first | (refine' (fun N m mb T Tb l lb p n u z1 => td_ne N m mb l lb T Tb p n u z1) (by k_asm) (by k_mem) (by k_mem) (by with_reducible assumption) (by with_reducible assumption) (by with_reducible assumption) (by with_reducible assumption) (by first | exact List.Perm.refl _ | with_reducible assumption) (by with_reducible assumption) (by units_room) ?_) | (refine' strs_ne (by k_asm) (by k_mem) (by k_mem) (by with_reducible assumption) (by with_reducible assumption) (by with_reducible assumption) (by units_room) ?_))))) | ((k_here; (with_reducible show wpAny _ _ (compareOp CmpOp.NotEq (Value.ref _) (Value.ref _)) _ _ _); k_dflt (first | (refine' (fun N m mb T Tb l lb p n u z1 => td_ne N m mb l lb T Tb p n u z1) (by k_asm) (by k_mem) (by k_mem) (by with_reducible assumption) (by with_reducible assumption) (by with_reducible assumption) (by with_reducible assumption) (by first | exact List.Perm.refl _ | with_reducible assumption) (by with_reducible assumption) (by units_room) ?_) | (refine' strs_ne (by k_asm) (by k_mem) (by k_mem) (by with_reducible assumption) (by with_reducible assumption) (by with_reducible assumption) (by units_room) ?_)))))
          | ((with_reducible show wpAny _ _ (subscriptTail (Expr.Name _ _) (Expr.Name _ _) (Value.ref _) (Value.int _ _)) _ _ _); first | (with_reducible ((k_here; k_dflt (refine' td_item (by k_asm) (by k_mem) (by with_reducible assumption) (by with_reducible assumption) (by with_reducible assumption) ?_ (by with_unfolding_all rfl) (by intro _; with_unfolding_all rfl); intro _)))) | ((k_here; k_dflt (refine' td_item (by k_asm) (by k_mem) (by with_reducible assumption) (by with_reducible assumption) (by with_reducible assumption) ?_ (by with_unfolding_all rfl) (by intro _; with_unfolding_all rfl); intro _))))
          | ((with_reducible show wpAny _ _ (call (Value.builtin "sorted") _) _ _ _); first | (with_reducible ((k_here; k_dflt (refine' td_sorted (by rfl) (by k_asm) (by k_asm) (by k_mem) (by with_reducible assumption) (by with_reducible assumption) (by with_reducible assumption) ?_); intro _ _ _ _ _ _ _ _ _))) | ((k_here; k_dflt (refine' td_sorted (by rfl) (by k_asm) (by k_asm) (by k_mem) (by with_reducible assumption) (by with_reducible assumption) (by with_reducible assumption) ?_); intro _ _ _ _ _ _ _ _ _)))
          | ((with_reducible show wpAny _ _ (eval (Expr.ListComp _ _ _ _) _) _ _ _); first | (with_reducible ((k_here; (with_reducible show wpAny _ _ (eval (Expr.ListComp (Expr.BinOp _ _ _ _) _ _ _) _) _ _ _); k_dflt (refine LCg.ListComp_U (F₀ := by k_asm) (by with_unfolding_all rfl) (by decide) (by rfl) (by decide) (by rfl) ?_)))) | ((k_here; (with_reducible show wpAny _ _ (eval (Expr.ListComp (Expr.BinOp _ _ _ _) _ _ _) _) _ _ _); k_dflt (refine LCg.ListComp_U (F₀ := by k_asm) (by with_unfolding_all rfl) (by decide) (by rfl) (by decide) (by rfl) ?_))))
          | (first | (with_reducible ((k_here; (with_reducible show wpAny _ _ (eval (Expr.Call (Expr.Name _ _) _ [] _) _) _ _ _); k_dflt (refine Call_ ?_)))) | ((k_here; (with_reducible show wpAny _ _ (eval (Expr.Call (Expr.Name _ _) _ [] _) _) _ _ _); k_dflt (refine Call_ ?_))))
          | ((with_reducible show wpAny _ _ (pyIter (Value.ref _)) _ _ _); first | (with_reducible ((k_here; k_dflt (refine heardHere ?_)))) | ((k_here; k_dflt (refine heardHere ?_))))
          | ((with_reducible show wpAny _ _ (exec (Stmt.For (Expr.Name _ _) (Expr.Name _ _) _ [] _) _) _ _ _); first | (with_reducible ((k_here; (rename Fr _ _ _ _ => lF'); (with_unfolding_all refine' For_invVF lF' ?k1 ?k2 ?_; (case k1 => exact rfl); (case k2 => exact rfl); k_whole)))) | ((k_here; (rename Fr _ _ _ _ => lF'); (with_unfolding_all refine' For_invVF lF' ?k1 ?k2 ?_; (case k1 => exact rfl); (case k2 => exact rfl); k_whole))))
          | ((with_reducible show wpAny _ _ (storeName _ _ _) _ _ _); k_here; k_dflt (first | (refine' storeAI s1 (by rfl) (by rfl) (by k_asm) (by k_asm) rfl rfl rfl ?_; k_whole; intro _ _ _ _ _) | (refine' storeAS s1 (by rfl) (by rfl) (by k_asm) (by k_asm) rfl rfl rfl ?_; k_whole; intro _ _ _ _ _) | (refine' storeA s1 (by rfl) (by rfl) (by k_asm) (by k_asm) rfl rfl rfl ?_; k_whole; intro _ _ _ _)); (try k_sweep))
          | ((with_reducible show wpAny _ _ (exec _ _) _ _ _); k_here; k_dflt (refine' anchorE s1 (by k_asm) rfl rfl rfl rfl ?_; k_whole; intro _); (try k_fold); walk1)
          | ((with_reducible show wpAny _ _ (exec _ _) _ _ _); k_here; k_fold; walk1)
          | walk1
          | (dsimp only; walk1)
          | (leave1; walk_say "STEP leave1"; try dsimp only)
          | fail "no step")
        exact ⟨h', _, _, rfl, F', N', off', .inr ⟨_, List.mem_cons_self, rfl, _, rfl⟩, rfl, _, by rw [hra]; rfl⟩
      · intro ys' hy'
        rw [← within_all I1] at hy'
        repeat' (first
          | (k_unfold; (try dsimp only))
          | (k_end; wrow_close)
          | ((with_reducible show LCg.CompSrc _ _ _ _ _ _ _ _ _ _ _ _ _ _); first | (with_reducible (((rename LedOk _ _ _ _ _ _ _ _ _ => lK'); refine heardHere ?_))) | (((rename LedOk _ _ _ _ _ _ _ _ _ => lK'); refine heardHere ?_)))
          | ((with_reducible show wpAny _ _ (eval (Expr.Lambda _ _ _ _) _) _ _ _); first | (with_reducible ((k_here; k_dflt (refine' lamL (rest := []) (by k_asm) (by exact newsSub (b := [(173, tabObj #[]), (161, tabObj _), (168, tabObj _)]) (by k_asm) (List.forall_mem_cons.mpr ⟨by k_mem, List.forall_mem_cons.mpr ⟨by k_mem, List.forall_mem_cons.mpr ⟨by k_mem, List.forall_mem_nil _⟩⟩⟩)) (by k_asm) (by with_reducible assumption) (by k_updF) (by exact tab_nil) (by exact fun _ hq => nomatch hq) (by exact rfl) (by exact rfl) ?_); intro _ _ _ _ _ _ _ _ _ _ N' _ _ l1' _; (have z2' := lt_hd l1'); (try dsimp only at N')))) | ((k_here; k_dflt (refine' lamL (rest := []) (by k_asm) (by exact newsSub (b := [(173, tabObj #[]), (161, tabObj _), (168, tabObj _)]) (by k_asm) (List.forall_mem_cons.mpr ⟨by k_mem, List.forall_mem_cons.mpr ⟨by k_mem, List.forall_mem_cons.mpr ⟨by k_mem, List.forall_mem_nil _⟩⟩⟩)) (by k_asm) (by with_reducible assumption) (by k_updF) (by exact tab_nil) (by exact fun _ hq => nomatch hq) (by exact rfl) (by exact rfl) ?_); intro _ _ _ _ _ _ _ _ _ _ N' _ _ l1' _; (have z2' := lt_hd l1'); (try dsimp only at N'))))
          | ((with_reducible show wpAny _ _ (call (Value.ref _) _) _ _ _); first | (with_reducible ((k_here; k_dflt (first | ((with_reducible show wpAny _ _ (call (Value.ref 171) _) _ _ _); refine heardHere ?_) | ((with_reducible show wpAny _ _ (call (Value.ref 145) _) _ _ _); refine heardHere ?_) | ((with_reducible show wpAny _ _ (call (Value.ref 72) _) _ _ _); refine heardHere ?_) | ((with_reducible show wpAny _ _ (call (Value.ref 103) _) _ _ _); refine heardHere ?_) | ((with_reducible show wpAny _ _ (call (Value.ref 96) _) _ _ _); refine' listed_rows_spec (by k_asm) (by k_asm) (by k_asm) (by k_asm) (by k_asm) (by rfl) (by first | exact room1 (by with_reducible assumption) (by decide) | ktr_room) (by first | exact units1 (by with_reducible assumption) (by decide) | ktr_units) _ _ _ _ _ _ _ (by k_mem) (by with_reducible assumption) (by with_reducible assumption) (by with_reducible assumption) ?_; intro _ _ _ _ _ _ _ _; (try k_fold)))))) | ((k_here; k_dflt (first | ((with_reducible show wpAny _ _ (call (Value.ref 171) _) _ _ _); refine heardHere ?_) | ((with_reducible show wpAny _ _ (call (Value.ref 145) _) _ _ _); refine heardHere ?_) | ((with_reducible show wpAny _ _ (call (Value.ref 72) _) _ _ _); refine heardHere ?_) | ((with_reducible show wpAny _ _ (call (Value.ref 103) _) _ _ _); refine heardHere ?_) | ((with_reducible show wpAny _ _ (call (Value.ref 96) _) _ _ _); refine' listed_rows_spec (by k_asm) (by k_asm) (by k_asm) (by k_asm) (by k_asm) (by rfl) (by first | exact room1 (by with_reducible assumption) (by decide) | ktr_room) (by first | exact units1 (by with_reducible assumption) (by decide) | ktr_units) _ _ _ _ _ _ _ (by k_mem) (by with_reducible assumption) (by with_reducible assumption) (by with_reducible assumption) ?_; intro _ _ _ _ _ _ _ _; (try k_fold))))))
          | (first | (with_reducible ((k_here; (with_reducible show wpAny _ _ (compareOp CmpOp.NotEq (Value.ref _) (Value.ref _)) _ _ _); k_dflt (first | (refine' (fun N m mb T Tb l lb p n u z1 => td_ne N m mb l lb T Tb p n u z1) (by k_asm) (by k_mem) (by k_mem) (by with_reducible assumption) (by with_reducible assumption) (by with_reducible assumption) (by with_reducible assumption) (by first | exact List.Perm.refl _ | with_reducible assumption) (by with_reducible assumption) (by units_room) ?_) | (refine' strs_ne (by k_asm) (by k_mem) (by k_mem) (by with_reducible assumption) (by with_reducible assumption) (by with_reducible assumption) (by units_room) ?_))))) | ((k_here; (with_reducible show wpAny _ _ (compareOp CmpOp.NotEq (Value.ref _) (Value.ref _)) _ _ _); k_dflt (first | (refine' (fun N m mb T Tb l lb p n u z1 => td_ne N m mb l lb T Tb p n u z1) (by k_asm) (by k_mem) (by k_mem) (by with_reducible assumption) (by with_reducible assumption) (by with_reducible assumption) (by with_reducible assumption) (by first | exact List.Perm.refl _ | with_reducible assumption) (by with_reducible assumption) (by units_room) ?_) | (refine' strs_ne (by k_asm) (by k_mem) (by k_mem) (by with_reducible assumption) (by with_reducible assumption) (by with_reducible assumption) (by units_room) ?_)))))
          | ((with_reducible show wpAny _ _ (subscriptTail (Expr.Name _ _) (Expr.Name _ _) (Value.ref _) (Value.int _ _)) _ _ _); first | (with_reducible ((k_here; k_dflt (refine' td_item (by k_asm) (by k_mem) (by with_reducible assumption) (by with_reducible assumption) (by with_reducible assumption) ?_ (by with_unfolding_all rfl) (by intro _; with_unfolding_all rfl); intro _)))) | ((k_here; k_dflt (refine' td_item (by k_asm) (by k_mem) (by with_reducible assumption) (by with_reducible assumption) (by with_reducible assumption) ?_ (by with_unfolding_all rfl) (by intro _; with_unfolding_all rfl); intro _))))
          | ((with_reducible show wpAny _ _ (call (Value.builtin "sorted") _) _ _ _); first | (with_reducible ((k_here; k_dflt (refine' td_sorted (by rfl) (by k_asm) (by k_asm) (by k_mem) (by with_reducible assumption) (by with_reducible assumption) (by with_reducible assumption) ?_); intro _ _ _ _ _ _ _ _ _))) | ((k_here; k_dflt (refine' td_sorted (by rfl) (by k_asm) (by k_asm) (by k_mem) (by with_reducible assumption) (by with_reducible assumption) (by with_reducible assumption) ?_); intro _ _ _ _ _ _ _ _ _)))
          | ((with_reducible show wpAny _ _ (eval (Expr.ListComp _ _ _ _) _) _ _ _); first | (with_reducible ((k_here; (with_reducible show wpAny _ _ (eval (Expr.ListComp (Expr.BinOp _ _ _ _) _ _ _) _) _ _ _); k_dflt (refine LCg.ListComp_U (F₀ := by k_asm) (by with_unfolding_all rfl) (by decide) (by rfl) (by decide) (by rfl) ?_)))) | ((k_here; (with_reducible show wpAny _ _ (eval (Expr.ListComp (Expr.BinOp _ _ _ _) _ _ _) _) _ _ _); k_dflt (refine LCg.ListComp_U (F₀ := by k_asm) (by with_unfolding_all rfl) (by decide) (by rfl) (by decide) (by rfl) ?_))))
          | (first | (with_reducible ((k_here; (with_reducible show wpAny _ _ (eval (Expr.Call (Expr.Name _ _) _ [] _) _) _ _ _); k_dflt (refine Call_ ?_)))) | ((k_here; (with_reducible show wpAny _ _ (eval (Expr.Call (Expr.Name _ _) _ [] _) _) _ _ _); k_dflt (refine Call_ ?_))))
          | ((with_reducible show wpAny _ _ (pyIter (Value.ref _)) _ _ _); first | (with_reducible ((k_here; k_dflt (refine heardHere ?_)))) | ((k_here; k_dflt (refine heardHere ?_))))
          | ((with_reducible show wpAny _ _ (exec (Stmt.For (Expr.Name _ _) (Expr.Name _ _) _ [] _) _) _ _ _); first | (with_reducible ((k_here; (rename Fr _ _ _ _ => lF'); (with_unfolding_all refine' For_invVF lF' ?k1 ?k2 ?_; (case k1 => exact rfl); (case k2 => exact rfl); k_whole)))) | ((k_here; (rename Fr _ _ _ _ => lF'); (with_unfolding_all refine' For_invVF lF' ?k1 ?k2 ?_; (case k1 => exact rfl); (case k2 => exact rfl); k_whole))))
          | ((with_reducible show wpAny _ _ (storeName _ _ _) _ _ _); k_here; k_dflt (first | (refine' storeAI s1 (by rfl) (by rfl) (by k_asm) (by k_asm) rfl rfl rfl ?_; k_whole; intro _ _ _ _ _) | (refine' storeAS s1 (by rfl) (by rfl) (by k_asm) (by k_asm) rfl rfl rfl ?_; k_whole; intro _ _ _ _ _) | (refine' storeA s1 (by rfl) (by rfl) (by k_asm) (by k_asm) rfl rfl rfl ?_; k_whole; intro _ _ _ _)); (try k_sweep))
          | ((with_reducible show wpAny _ _ (exec _ _) _ _ _); k_here; k_dflt (refine' anchorE s1 (by k_asm) rfl rfl rfl rfl ?_; k_whole; intro _); (try k_fold); walk1)
          | ((with_reducible show wpAny _ _ (exec _ _) _ _ _); k_here; k_fold; walk1)
          | walk1
          | (dsimp only; walk1)
          | (leave1; walk_say "STEP leave1"; try dsimp only)
          | fail "no step")
        unfold HeardHere
        refine' program_of_rows_spec BG ?Fp XG TG rfl ?dp ?up _ _ (allRows c1) (news := ledOf d' o1 b' ob1 ps1 qs1 rest1) (newsSub ?Np ?sp) ?np ?vp (rows_len I1) (rows_ok I1) ?rp
        case Fp => k_asm
        case dp => ktr_room
        case up => ktr_units
        case Np => k_asm
        case sp => intro q hq; repeat (first | exact hq | apply List.mem_cons_of_mem)
        case np => with_reducible assumption
        case vp => exact hvr
        case rp =>
          intro d2 o2 h3 tk3 F3 N3 l3 lo3 T3
          try k_fold
          repeat' (first
            | (k_unfold; (try dsimp only))
            | (k_end; wrow_close)
            | ((with_reducible show LCg.CompSrc _ _ _ _ _ _ _ _ _ _ _ _ _ _); first | (with_reducible (((rename LedOk _ _ _ _ _ _ _ _ _ => lK'); refine heardHere ?_))) | (((rename LedOk _ _ _ _ _ _ _ _ _ => lK'); refine heardHere ?_)))
            | ((with_reducible show wpAny _ _ (eval (Expr.Lambda _ _ _ _) _) _ _ _); first | (with_reducible ((k_here; k_dflt (refine' lamL (rest := []) (by k_asm) (by exact newsSub (b := [(173, tabObj #[]), (161, tabObj _), (168, tabObj _)]) (by k_asm) (List.forall_mem_cons.mpr ⟨by k_mem, List.forall_mem_cons.mpr ⟨by k_mem, List.forall_mem_cons.mpr ⟨by k_mem, List.forall_mem_nil _⟩⟩⟩)) (by k_asm) (by with_reducible assumption) (by k_updF) (by exact tab_nil) (by exact fun _ hq => nomatch hq) (by exact rfl) (by exact rfl) ?_); intro _ _ _ _ _ _ _ _ _ _ N' _ _ l1' _; (have z2' := lt_hd l1'); (try dsimp only at N')))) | ((k_here; k_dflt (refine' lamL (rest := []) (by k_asm) (by exact newsSub (b := [(173, tabObj #[]), (161, tabObj _), (168, tabObj _)]) (by k_asm) (List.forall_mem_cons.mpr ⟨by k_mem, List.forall_mem_cons.mpr ⟨by k_mem, List.forall_mem_cons.mpr ⟨by k_mem, List.forall_mem_nil _⟩⟩⟩)) (by k_asm) (by with_reducible assumption) (by k_updF) (by exact tab_nil) (by exact fun _ hq => nomatch hq) (by exact rfl) (by exact rfl) ?_); intro _ _ _ _ _ _ _ _ _ _ N' _ _ l1' _; (have z2' := lt_hd l1'); (try dsimp only at N'))))
            | ((with_reducible show wpAny _ _ (call (Value.ref _) _) _ _ _); first | (with_reducible ((k_here; k_dflt (first | ((with_reducible show wpAny _ _ (call (Value.ref 171) _) _ _ _); refine heardHere ?_) | ((with_reducible show wpAny _ _ (call (Value.ref 145) _) _ _ _); refine heardHere ?_) | ((with_reducible show wpAny _ _ (call (Value.ref 72) _) _ _ _); refine heardHere ?_) | ((with_reducible show wpAny _ _ (call (Value.ref 103) _) _ _ _); refine heardHere ?_) | ((with_reducible show wpAny _ _ (call (Value.ref 96) _) _ _ _); refine' listed_rows_spec (by k_asm) (by k_asm) (by k_asm) (by k_asm) (by k_asm) (by rfl) (by first | exact room1 (by with_reducible assumption) (by decide) | ktr_room) (by first | exact units1 (by with_reducible assumption) (by decide) | ktr_units) _ _ _ _ _ _ _ (by k_mem) (by with_reducible assumption) (by with_reducible assumption) (by with_reducible assumption) ?_; intro _ _ _ _ _ _ _ _; (try k_fold)))))) | ((k_here; k_dflt (first | ((with_reducible show wpAny _ _ (call (Value.ref 171) _) _ _ _); refine heardHere ?_) | ((with_reducible show wpAny _ _ (call (Value.ref 145) _) _ _ _); refine heardHere ?_) | ((with_reducible show wpAny _ _ (call (Value.ref 72) _) _ _ _); refine heardHere ?_) | ((with_reducible show wpAny _ _ (call (Value.ref 103) _) _ _ _); refine heardHere ?_) | ((with_reducible show wpAny _ _ (call (Value.ref 96) _) _ _ _); refine' listed_rows_spec (by k_asm) (by k_asm) (by k_asm) (by k_asm) (by k_asm) (by rfl) (by first | exact room1 (by with_reducible assumption) (by decide) | ktr_room) (by first | exact units1 (by with_reducible assumption) (by decide) | ktr_units) _ _ _ _ _ _ _ (by k_mem) (by with_reducible assumption) (by with_reducible assumption) (by with_reducible assumption) ?_; intro _ _ _ _ _ _ _ _; (try k_fold))))))
            | (first | (with_reducible ((k_here; (with_reducible show wpAny _ _ (compareOp CmpOp.NotEq (Value.ref _) (Value.ref _)) _ _ _); k_dflt (first | (refine' (fun N m mb T Tb l lb p n u z1 => td_ne N m mb l lb T Tb p n u z1) (by k_asm) (by k_mem) (by k_mem) (by with_reducible assumption) (by with_reducible assumption) (by with_reducible assumption) (by with_reducible assumption) (by first | exact List.Perm.refl _ | with_reducible assumption) (by with_reducible assumption) (by units_room) ?_) | (refine' strs_ne (by k_asm) (by k_mem) (by k_mem) (by with_reducible assumption) (by with_reducible assumption) (by with_reducible assumption) (by units_room) ?_))))) | ((k_here; (with_reducible show wpAny _ _ (compareOp CmpOp.NotEq (Value.ref _) (Value.ref _)) _ _ _); k_dflt (first | (refine' (fun N m mb T Tb l lb p n u z1 => td_ne N m mb l lb T Tb p n u z1) (by k_asm) (by k_mem) (by k_mem) (by with_reducible assumption) (by with_reducible assumption) (by with_reducible assumption) (by with_reducible assumption) (by first | exact List.Perm.refl _ | with_reducible assumption) (by with_reducible assumption) (by units_room) ?_) | (refine' strs_ne (by k_asm) (by k_mem) (by k_mem) (by with_reducible assumption) (by with_reducible assumption) (by with_reducible assumption) (by units_room) ?_)))))
            | ((with_reducible show wpAny _ _ (subscriptTail (Expr.Name _ _) (Expr.Name _ _) (Value.ref _) (Value.int _ _)) _ _ _); first | (with_reducible ((k_here; k_dflt (refine' td_item (by k_asm) (by k_mem) (by with_reducible assumption) (by with_reducible assumption) (by with_reducible assumption) ?_ (by with_unfolding_all rfl) (by intro _; with_unfolding_all rfl); intro _)))) | ((k_here; k_dflt (refine' td_item (by k_asm) (by k_mem) (by with_reducible assumption) (by with_reducible assumption) (by with_reducible assumption) ?_ (by with_unfolding_all rfl) (by intro _; with_unfolding_all rfl); intro _))))
            | ((with_reducible show wpAny _ _ (call (Value.builtin "sorted") _) _ _ _); first | (with_reducible ((k_here; k_dflt (refine' td_sorted (by rfl) (by k_asm) (by k_asm) (by k_mem) (by with_reducible assumption) (by with_reducible assumption) (by with_reducible assumption) ?_); intro _ _ _ _ _ _ _ _ _))) | ((k_here; k_dflt (refine' td_sorted (by rfl) (by k_asm) (by k_asm) (by k_mem) (by with_reducible assumption) (by with_reducible assumption) (by with_reducible assumption) ?_); intro _ _ _ _ _ _ _ _ _)))
            | ((with_reducible show wpAny _ _ (eval (Expr.ListComp _ _ _ _) _) _ _ _); first | (with_reducible ((k_here; (with_reducible show wpAny _ _ (eval (Expr.ListComp (Expr.BinOp _ _ _ _) _ _ _) _) _ _ _); k_dflt (refine LCg.ListComp_U (F₀ := by k_asm) (by with_unfolding_all rfl) (by decide) (by rfl) (by decide) (by rfl) ?_)))) | ((k_here; (with_reducible show wpAny _ _ (eval (Expr.ListComp (Expr.BinOp _ _ _ _) _ _ _) _) _ _ _); k_dflt (refine LCg.ListComp_U (F₀ := by k_asm) (by with_unfolding_all rfl) (by decide) (by rfl) (by decide) (by rfl) ?_))))
            | (first | (with_reducible ((k_here; (with_reducible show wpAny _ _ (eval (Expr.Call (Expr.Name _ _) _ [] _) _) _ _ _); k_dflt (refine Call_ ?_)))) | ((k_here; (with_reducible show wpAny _ _ (eval (Expr.Call (Expr.Name _ _) _ [] _) _) _ _ _); k_dflt (refine Call_ ?_))))
            | ((with_reducible show wpAny _ _ (pyIter (Value.ref _)) _ _ _); first | (with_reducible ((k_here; k_dflt (refine heardHere ?_)))) | ((k_here; k_dflt (refine heardHere ?_))))
            | ((with_reducible show wpAny _ _ (exec (Stmt.For (Expr.Name _ _) (Expr.Name _ _) _ [] _) _) _ _ _); first | (with_reducible ((k_here; (rename Fr _ _ _ _ => lF'); (with_unfolding_all refine' For_invVF lF' ?k1 ?k2 ?_; (case k1 => exact rfl); (case k2 => exact rfl); k_whole)))) | ((k_here; (rename Fr _ _ _ _ => lF'); (with_unfolding_all refine' For_invVF lF' ?k1 ?k2 ?_; (case k1 => exact rfl); (case k2 => exact rfl); k_whole))))
            | ((with_reducible show wpAny _ _ (storeName _ _ _) _ _ _); k_here; k_dflt (first | (refine' storeAI s1 (by rfl) (by rfl) (by k_asm) (by k_asm) rfl rfl rfl ?_; k_whole; intro _ _ _ _ _) | (refine' storeAS s1 (by rfl) (by rfl) (by k_asm) (by k_asm) rfl rfl rfl ?_; k_whole; intro _ _ _ _ _) | (refine' storeA s1 (by rfl) (by rfl) (by k_asm) (by k_asm) rfl rfl rfl ?_; k_whole; intro _ _ _ _)); (try k_sweep))
            | ((with_reducible show wpAny _ _ (exec _ _) _ _ _); k_here; k_dflt (refine' anchorE s1 (by k_asm) rfl rfl rfl rfl ?_; k_whole; intro _); (try k_fold); walk1)
            | ((with_reducible show wpAny _ _ (exec _ _) _ _ _); k_here; k_fold; walk1)
            | walk1
            | (dsimp only; walk1)
            | (leave1; walk_say "STEP leave1"; try dsimp only)
            | fail "no step")
          have N4 := newsSub N3 (fun q hq => .tail _ hq)
          exact ⟨rfl, _, _, _, _, rfl, F3, led_end N4 hI1, led_ne K0 hI1, ⟨o1, ob1, ps1, qs1, offI I rest1, c1, _, rfl, led_off K0 N4 hI1 hoI, I1, fun q hq => offI_mem (hb1 q hq) (hnb q hq), prog_first (by rfl)⟩⟩
  case done =>
    rintro m₁ nx h1 tk1 ⟨o, ob, ps, qs, rest, c, u, rfl, K, Iv, hb, rfl⟩ F1 N1
    have N2 := newsSub (b := [(173, tabObj #[]), (161, tabObj ps), (168, tabObj qs)]) N1 (List.forall_mem_cons.mpr ⟨.tail _ (.tail _ (.tail _ (.tail _ (hb _ (.tail _ (.tail _ (.head _))))))), List.forall_mem_cons.mpr ⟨.tail _ (.tail _ (.head _)), List.forall_mem_cons.mpr ⟨.tail _ (.tail _ (.tail _ (.head _))), List.forall_mem_nil _⟩⟩⟩)
    clear N1 hb K Iv
    repeat' (first
      | (k_unfold; (try dsimp only))
      | (k_end; wrow_close)
      | ((with_reducible show LCg.CompSrc _ _ _ _ _ _ _ _ _ _ _ _ _ _); first | (with_reducible (((rename LedOk _ _ _ _ _ _ _ _ _ => lK'); refine heardHere ?_))) | (((rename LedOk _ _ _ _ _ _ _ _ _ => lK'); refine heardHere ?_)))
      | ((with_reducible show wpAny _ _ (eval (Expr.Lambda _ _ _ _) _) _ _ _); first | (with_reducible ((k_here; k_dflt (refine' lamL (rest := []) (by k_asm) (by exact newsSub (b := [(173, tabObj #[]), (161, tabObj _), (168, tabObj _)]) (by k_asm) (List.forall_mem_cons.mpr ⟨by k_mem, List.forall_mem_cons.mpr ⟨by k_mem, List.forall_mem_cons.mpr ⟨by k_mem, List.forall_mem_nil _⟩⟩⟩)) (by k_asm) (by with_reducible assumption) (by k_updF) (by exact tab_nil) (by exact fun _ hq => nomatch hq) (by exact rfl) (by exact rfl) ?_); intro _ _ _ _ _ _ _ _ _ _ N' _ _ l1' _; (have z2' := lt_hd l1'); (try dsimp only at N')))) | ((k_here; k_dflt (refine' lamL (rest := []) (by k_asm) (by exact newsSub (b := [(173, tabObj #[]), (161, tabObj _), (168, tabObj _)]) (by k_asm) (List.forall_mem_cons.mpr ⟨by k_mem, List.forall_mem_cons.mpr ⟨by k_mem, List.forall_mem_cons.mpr ⟨by k_mem, List.forall_mem_nil _⟩⟩⟩)) (by k_asm) (by with_reducible assumption) (by k_updF) (by exact tab_nil) (by exact fun _ hq => nomatch hq) (by exact rfl) (by exact rfl) ?_); intro _ _ _ _ _ _ _ _ _ _ N' _ _ l1' _; (have z2' := lt_hd l1'); (try dsimp only at N'))))
      | ((with_reducible show wpAny _ _ (call (Value.ref _) _) _ _ _); first | (with_reducible ((k_here; k_dflt (first | ((with_reducible show wpAny _ _ (call (Value.ref 171) _) _ _ _); refine heardHere ?_) | ((with_reducible show wpAny _ _ (call (Value.ref 145) _) _ _ _); refine heardHere ?_) | ((with_reducible show wpAny _ _ (call (Value.ref 72) _) _ _ _); refine heardHere ?_) | ((with_reducible show wpAny _ _ (call (Value.ref 103) _) _ _ _); refine heardHere ?_) | ((with_reducible show wpAny _ _ (call (Value.ref 96) _) _ _ _); refine' listed_rows_spec (by k_asm) (by k_asm) (by k_asm) (by k_asm) (by k_asm) (by rfl) (by first | exact room1 (by with_reducible assumption) (by decide) | ktr_room) (by first | exact units1 (by with_reducible assumption) (by decide) | ktr_units) _ _ _ _ _ _ _ (by k_mem) (by with_reducible assumption) (by with_reducible assumption) (by with_reducible assumption) ?_; intro _ _ _ _ _ _ _ _; (try k_fold)))))) | ((k_here; k_dflt (first | ((with_reducible show wpAny _ _ (call (Value.ref 171) _) _ _ _); refine heardHere ?_) | ((with_reducible show wpAny _ _ (call (Value.ref 145) _) _ _ _); refine heardHere ?_) | ((with_reducible show wpAny _ _ (call (Value.ref 72) _) _ _ _); refine heardHere ?_) | ((with_reducible show wpAny _ _ (call (Value.ref 103) _) _ _ _); refine heardHere ?_) | ((with_reducible show wpAny _ _ (call (Value.ref 96) _) _ _ _); refine' listed_rows_spec (by k_asm) (by k_asm) (by k_asm) (by k_asm) (by k_asm) (by rfl) (by first | exact room1 (by with_reducible assumption) (by decide) | ktr_room) (by first | exact units1 (by with_reducible assumption) (by decide) | ktr_units) _ _ _ _ _ _ _ (by k_mem) (by with_reducible assumption) (by with_reducible assumption) (by with_reducible assumption) ?_; intro _ _ _ _ _ _ _ _; (try k_fold))))))
      | (first | (with_reducible ((k_here; (with_reducible show wpAny _ _ (compareOp CmpOp.NotEq (Value.ref _) (Value.ref _)) _ _ _); k_dflt (first | (refine' (fun N m mb T Tb l lb p n u z1 => td_ne N m mb l lb T Tb p n u z1) (by k_asm) (by k_mem) (by k_mem) (by with_reducible assumption) (by with_reducible assumption) (by with_reducible assumption) (by with_reducible assumption) (by first | exact List.Perm.refl _ | with_reducible assumption) (by with_reducible assumption) (by units_room) ?_) | (refine' strs_ne (by k_asm) (by k_mem) (by k_mem) (by with_reducible assumption) (by with_reducible assumption) (by with_reducible assumption) (by units_room) ?_))))) | ((k_here; (with_reducible show wpAny _ _ (compareOp CmpOp.NotEq (Value.ref _) (Value.ref _)) _ _ _); k_dflt (first | (refine' (fun N m mb T Tb l lb p n u z1 => td_ne N m mb l lb T Tb p n u z1) (by k_asm) (by k_mem) (by k_mem) (by with_reducible assumption) (by with_reducible assumption) (by with_reducible assumption) (by with_reducible assumption) (by first | exact List.Perm.refl _ | with_reducible assumption) (by with_reducible assumption) (by units_room) ?_) | (refine' strs_ne (by k_asm) (by k_mem) (by k_mem) (by with_reducible assumption) (by with_reducible assumption) (by with_reducible assumption) (by units_room) ?_)))))
      | ((with_reducible show wpAny _ _ (subscriptTail (Expr.Name _ _) (Expr.Name _ _) (Value.ref _) (Value.int _ _)) _ _ _); first | (with_reducible ((k_here; k_dflt (refine' td_item (by k_asm) (by k_mem) (by with_reducible assumption) (by with_reducible assumption) (by with_reducible assumption) ?_ (by with_unfolding_all rfl) (by intro _; with_unfolding_all rfl); intro _)))) | ((k_here; k_dflt (refine' td_item (by k_asm) (by k_mem) (by with_reducible assumption) (by with_reducible assumption) (by with_reducible assumption) ?_ (by with_unfolding_all rfl) (by intro _; with_unfolding_all rfl); intro _))))
      | ((with_reducible show wpAny _ _ (call (Value.builtin "sorted") _) _ _ _); first | (with_reducible ((k_here; k_dflt (refine' td_sorted (by rfl) (by k_asm) (by k_asm) (by k_mem) (by with_reducible assumption) (by with_reducible assumption) (by with_reducible assumption) ?_); intro _ _ _ _ _ _ _ _ _))) | ((k_here; k_dflt (refine' td_sorted (by rfl) (by k_asm) (by k_asm) (by k_mem) (by with_reducible assumption) (by with_reducible assumption) (by with_reducible assumption) ?_); intro _ _ _ _ _ _ _ _ _)))
      | ((with_reducible show wpAny _ _ (eval (Expr.ListComp _ _ _ _) _) _ _ _); first | (with_reducible ((k_here; (with_reducible show wpAny _ _ (eval (Expr.ListComp (Expr.BinOp _ _ _ _) _ _ _) _) _ _ _); k_dflt (refine LCg.ListComp_U (F₀ := by k_asm) (by with_unfolding_all rfl) (by decide) (by rfl) (by decide) (by rfl) ?_)))) | ((k_here; (with_reducible show wpAny _ _ (eval (Expr.ListComp (Expr.BinOp _ _ _ _) _ _ _) _) _ _ _); k_dflt (refine LCg.ListComp_U (F₀ := by k_asm) (by with_unfolding_all rfl) (by decide) (by rfl) (by decide) (by rfl) ?_))))
      | (first | (with_reducible ((k_here; (with_reducible show wpAny _ _ (eval (Expr.Call (Expr.Name _ _) _ [] _) _) _ _ _); k_dflt (refine Call_ ?_)))) | ((k_here; (with_reducible show wpAny _ _ (eval (Expr.Call (Expr.Name _ _) _ [] _) _) _ _ _); k_dflt (refine Call_ ?_))))
      | ((with_reducible show wpAny _ _ (pyIter (Value.ref _)) _ _ _); first | (with_reducible ((k_here; k_dflt (refine heardHere ?_)))) | ((k_here; k_dflt (refine heardHere ?_))))
      | ((with_reducible show wpAny _ _ (exec (Stmt.For (Expr.Name _ _) (Expr.Name _ _) _ [] _) _) _ _ _); first | (with_reducible ((k_here; (rename Fr _ _ _ _ => lF'); (with_unfolding_all refine' For_invVF lF' ?k1 ?k2 ?_; (case k1 => exact rfl); (case k2 => exact rfl); k_whole)))) | ((k_here; (rename Fr _ _ _ _ => lF'); (with_unfolding_all refine' For_invVF lF' ?k1 ?k2 ?_; (case k1 => exact rfl); (case k2 => exact rfl); k_whole))))
      | ((with_reducible show wpAny _ _ (storeName _ _ _) _ _ _); k_here; k_dflt (first | (refine' storeAI s1 (by rfl) (by rfl) (by k_asm) (by k_asm) rfl rfl rfl ?_; k_whole; intro _ _ _ _ _) | (refine' storeAS s1 (by rfl) (by rfl) (by k_asm) (by k_asm) rfl rfl rfl ?_; k_whole; intro _ _ _ _ _) | (refine' storeA s1 (by rfl) (by rfl) (by k_asm) (by k_asm) rfl rfl rfl ?_; k_whole; intro _ _ _ _)); (try k_sweep))
      | ((with_reducible show wpAny _ _ (exec _ _) _ _ _); k_here; k_dflt (refine' anchorE s1 (by k_asm) rfl rfl rfl rfl ?_; k_whole; intro _); (try k_fold); walk1)
      | ((with_reducible show wpAny _ _ (exec _ _) _ _ _); k_here; k_fold; walk1)
      | walk1
      | (dsimp only; walk1)
      | (leave1; walk_say "STEP leave1"; try dsimp only)
      | fail "no step")
    unfold HeardHere
    refine' parted_row_spec BG ?FA XG ?NA TG rfl ?dA ?uA _ _ ?xA ?fA ?yA ?zA ?r0A ?rA
    case FA => k_asm
    case NA => k_asm
    case dA => ktr_room
    case uA => ktr_units
    case xA => decide +kernel
    case fA => decide +kernel
    case yA => decide +kernel
    case zA => decide +kernel
    case r0A => exact fun e => absurd e (by decide +kernel)
    case rA =>
      intro _ DA hA tkA tA1 tA2 FA NA lA
      rw [rowA1, rowA2] at NA
      repeat' (first
        | (k_unfold; (try dsimp only))
        | (k_end; wrow_close)
        | ((with_reducible show LCg.CompSrc _ _ _ _ _ _ _ _ _ _ _ _ _ _); first | (with_reducible (((rename LedOk _ _ _ _ _ _ _ _ _ => lK'); refine heardHere ?_))) | (((rename LedOk _ _ _ _ _ _ _ _ _ => lK'); refine heardHere ?_)))
        | ((with_reducible show wpAny _ _ (eval (Expr.Lambda _ _ _ _) _) _ _ _); first | (with_reducible ((k_here; k_dflt (refine' lamL (rest := []) (by k_asm) (by exact newsSub (b := [(173, tabObj #[]), (161, tabObj _), (168, tabObj _)]) (by k_asm) (List.forall_mem_cons.mpr ⟨by k_mem, List.forall_mem_cons.mpr ⟨by k_mem, List.forall_mem_cons.mpr ⟨by k_mem, List.forall_mem_nil _⟩⟩⟩)) (by k_asm) (by with_reducible assumption) (by k_updF) (by exact tab_nil) (by exact fun _ hq => nomatch hq) (by exact rfl) (by exact rfl) ?_); intro _ _ _ _ _ _ _ _ _ _ N' _ _ l1' _; (have z2' := lt_hd l1'); (try dsimp only at N')))) | ((k_here; k_dflt (refine' lamL (rest := []) (by k_asm) (by exact newsSub (b := [(173, tabObj #[]), (161, tabObj _), (168, tabObj _)]) (by k_asm) (List.forall_mem_cons.mpr ⟨by k_mem, List.forall_mem_cons.mpr ⟨by k_mem, List.forall_mem_cons.mpr ⟨by k_mem, List.forall_mem_nil _⟩⟩⟩)) (by k_asm) (by with_reducible assumption) (by k_updF) (by exact tab_nil) (by exact fun _ hq => nomatch hq) (by exact rfl) (by exact rfl) ?_); intro _ _ _ _ _ _ _ _ _ _ N' _ _ l1' _; (have z2' := lt_hd l1'); (try dsimp only at N'))))
        | ((with_reducible show wpAny _ _ (call (Value.ref _) _) _ _ _); first | (with_reducible ((k_here; k_dflt (first | ((with_reducible show wpAny _ _ (call (Value.ref 171) _) _ _ _); refine heardHere ?_) | ((with_reducible show wpAny _ _ (call (Value.ref 145) _) _ _ _); refine heardHere ?_) | ((with_reducible show wpAny _ _ (call (Value.ref 72) _) _ _ _); refine heardHere ?_) | ((with_reducible show wpAny _ _ (call (Value.ref 103) _) _ _ _); refine heardHere ?_) | ((with_reducible show wpAny _ _ (call (Value.ref 96) _) _ _ _); refine' listed_rows_spec (by k_asm) (by k_asm) (by k_asm) (by k_asm) (by k_asm) (by rfl) (by first | exact room1 (by with_reducible assumption) (by decide) | ktr_room) (by first | exact units1 (by with_reducible assumption) (by decide) | ktr_units) _ _ _ _ _ _ _ (by k_mem) (by with_reducible assumption) (by with_reducible assumption) (by with_reducible assumption) ?_; intro _ _ _ _ _ _ _ _; (try k_fold)))))) | ((k_here; k_dflt (first | ((with_reducible show wpAny _ _ (call (Value.ref 171) _) _ _ _); refine heardHere ?_) | ((with_reducible show wpAny _ _ (call (Value.ref 145) _) _ _ _); refine heardHere ?_) | ((with_reducible show wpAny _ _ (call (Value.ref 72) _) _ _ _); refine heardHere ?_) | ((with_reducible show wpAny _ _ (call (Value.ref 103) _) _ _ _); refine heardHere ?_) | ((with_reducible show wpAny _ _ (call (Value.ref 96) _) _ _ _); refine' listed_rows_spec (by k_asm) (by k_asm) (by k_asm) (by k_asm) (by k_asm) (by rfl) (by first | exact room1 (by with_reducible assumption) (by decide) | ktr_room) (by first | exact units1 (by with_reducible assumption) (by decide) | ktr_units) _ _ _ _ _ _ _ (by k_mem) (by with_reducible assumption) (by with_reducible assumption) (by with_reducible assumption) ?_; intro _ _ _ _ _ _ _ _; (try k_fold))))))
        | (first | (with_reducible ((k_here; (with_reducible show wpAny _ _ (compareOp CmpOp.NotEq (Value.ref _) (Value.ref _)) _ _ _); k_dflt (first | (refine' (fun N m mb T Tb l lb p n u z1 => td_ne N m mb l lb T Tb p n u z1) (by k_asm) (by k_mem) (by k_mem) (by with_reducible assumption) (by with_reducible assumption) (by with_reducible assumption) (by with_reducible assumption) (by first | exact List.Perm.refl _ | with_reducible assumption) (by with_reducible assumption) (by units_room) ?_) | (refine' strs_ne (by k_asm) (by k_mem) (by k_mem) (by with_reducible assumption) (by with_reducible assumption) (by with_reducible assumption) (by units_room) ?_))))) | ((k_here; (with_reducible show wpAny _ _ (compareOp CmpOp.NotEq (Value.ref _) (Value.ref _)) _ _ _); k_dflt (first | (refine' (fun N m mb T Tb l lb p n u z1 => td_ne N m mb l lb T Tb p n u z1) (by k_asm) (by k_mem) (by k_mem) (by with_reducible assumption) (by with_reducible assumption) (by with_reducible assumption) (by with_reducible assumption) (by first | exact List.Perm.refl _ | with_reducible assumption) (by with_reducible assumption) (by units_room) ?_) | (refine' strs_ne (by k_asm) (by k_mem) (by k_mem) (by with_reducible assumption) (by with_reducible assumption) (by with_reducible assumption) (by units_room) ?_)))))
        | ((with_reducible show wpAny _ _ (subscriptTail (Expr.Name _ _) (Expr.Name _ _) (Value.ref _) (Value.int _ _)) _ _ _); first | (with_reducible ((k_here; k_dflt (refine' td_item (by k_asm) (by k_mem) (by with_reducible assumption) (by with_reducible assumption) (by with_reducible assumption) ?_ (by with_unfolding_all rfl) (by intro _; with_unfolding_all rfl); intro _)))) | ((k_here; k_dflt (refine' td_item (by k_asm) (by k_mem) (by with_reducible assumption) (by with_reducible assumption) (by with_reducible assumption) ?_ (by with_unfolding_all rfl) (by intro _; with_unfolding_all rfl); intro _))))
        | ((with_reducible show wpAny _ _ (call (Value.builtin "sorted") _) _ _ _); first | (with_reducible ((k_here; k_dflt (refine' td_sorted (by rfl) (by k_asm) (by k_asm) (by k_mem) (by with_reducible assumption) (by with_reducible assumption) (by with_reducible assumption) ?_); intro _ _ _ _ _ _ _ _ _))) | ((k_here; k_dflt (refine' td_sorted (by rfl) (by k_asm) (by k_asm) (by k_mem) (by with_reducible assumption) (by with_reducible assumption) (by with_reducible assumption) ?_); intro _ _ _ _ _ _ _ _ _)))
        | ((with_reducible show wpAny _ _ (eval (Expr.ListComp _ _ _ _) _) _ _ _); first | (with_reducible ((k_here; (with_reducible show wpAny _ _ (eval (Expr.ListComp (Expr.BinOp _ _ _ _) _ _ _) _) _ _ _); k_dflt (refine LCg.ListComp_U (F₀ := by k_asm) (by with_unfolding_all rfl) (by decide) (by rfl) (by decide) (by rfl) ?_)))) | ((k_here; (with_reducible show wpAny _ _ (eval (Expr.ListComp (Expr.BinOp _ _ _ _) _ _ _) _) _ _ _); k_dflt (refine LCg.ListComp_U (F₀ := by k_asm) (by with_unfolding_all rfl) (by decide) (by rfl) (by decide) (by rfl) ?_))))
        | (first | (with_reducible ((k_here; (with_reducible show wpAny _ _ (eval (Expr.Call (Expr.Name _ _) _ [] _) _) _ _ _); k_dflt (refine Call_ ?_)))) | ((k_here; (with_reducible show wpAny _ _ (eval (Expr.Call (Expr.Name _ _) _ [] _) _) _ _ _); k_dflt (refine Call_ ?_))))
        | ((with_reducible show wpAny _ _ (pyIter (Value.ref _)) _ _ _); first | (with_reducible ((k_here; k_dflt (refine heardHere ?_)))) | ((k_here; k_dflt (refine heardHere ?_))))
        | ((with_reducible show wpAny _ _ (exec (Stmt.For (Expr.Name _ _) (Expr.Name _ _) _ [] _) _) _ _ _); first | (with_reducible ((k_here; (rename Fr _ _ _ _ => lF'); (with_unfolding_all refine' For_invVF lF' ?k1 ?k2 ?_; (case k1 => exact rfl); (case k2 => exact rfl); k_whole)))) | ((k_here; (rename Fr _ _ _ _ => lF'); (with_unfolding_all refine' For_invVF lF' ?k1 ?k2 ?_; (case k1 => exact rfl); (case k2 => exact rfl); k_whole))))
        | ((with_reducible show wpAny _ _ (storeName _ _ _) _ _ _); k_here; k_dflt (first | (refine' storeAI s1 (by rfl) (by rfl) (by k_asm) (by k_asm) rfl rfl rfl ?_; k_whole; intro _ _ _ _ _) | (refine' storeAS s1 (by rfl) (by rfl) (by k_asm) (by k_asm) rfl rfl rfl ?_; k_whole; intro _ _ _ _ _) | (refine' storeA s1 (by rfl) (by rfl) (by k_asm) (by k_asm) rfl rfl rfl ?_; k_whole; intro _ _ _ _)); (try k_sweep))
        | ((with_reducible show wpAny _ _ (exec _ _) _ _ _); k_here; k_dflt (refine' anchorE s1 (by k_asm) rfl rfl rfl rfl ?_; k_whole; intro _); (try k_fold); walk1)
        | ((with_reducible show wpAny _ _ (exec _ _) _ _ _); k_here; k_fold; walk1)
        | walk1
        | (dsimp only; walk1)
        | (leave1; walk_say "STEP leave1"; try dsimp only)
        | fail "no step")
      unfold HeardHere
      refine' parted_row_spec BG ?FB XG ?NB TG rfl ?dB ?uB _ _ ?xB ?fB ?yB ?zB ?r0B ?rB
      case FB => k_asm
      case NB => k_asm
      case dB => ktr_room
      case uB => ktr_units
      case xB => decide +kernel
      case fB => decide +kernel
      case yB => decide +kernel
      case zB => decide +kernel
      case rB => exact fun e => absurd (by decide +kernel) e
      case r0B =>
        intro _ DB hB tkB tB1 FB NB lB
        rw [rowB1] at NB
        repeat' (first
          | (k_unfold; (try dsimp only))
          | (k_end; wrow_close)
          | ((with_reducible show LCg.CompSrc _ _ _ _ _ _ _ _ _ _ _ _ _ _); first | (with_reducible (((rename LedOk _ _ _ _ _ _ _ _ _ => lK'); refine heardHere ?_))) | (((rename LedOk _ _ _ _ _ _ _ _ _ => lK'); refine heardHere ?_)))
          | ((with_reducible show wpAny _ _ (eval (Expr.Lambda _ _ _ _) _) _ _ _); first | (with_reducible ((k_here; k_dflt (refine' lamL (rest := []) (by k_asm) (by exact newsSub (b := [(173, tabObj #[]), (161, tabObj _), (168, tabObj _)]) (by k_asm) (List.forall_mem_cons.mpr ⟨by k_mem, List.forall_mem_cons.mpr ⟨by k_mem, List.forall_mem_cons.mpr ⟨by k_mem, List.forall_mem_nil _⟩⟩⟩)) (by k_asm) (by with_reducible assumption) (by k_updF) (by exact tab_nil) (by exact fun _ hq => nomatch hq) (by exact rfl) (by exact rfl) ?_); intro _ _ _ _ _ _ _ _ _ _ N' _ _ l1' _; (have z2' := lt_hd l1'); (try dsimp only at N')))) | ((k_here; k_dflt (refine' lamL (rest := []) (by k_asm) (by exact newsSub (b := [(173, tabObj #[]), (161, tabObj _), (168, tabObj _)]) (by k_asm) (List.forall_mem_cons.mpr ⟨by k_mem, List.forall_mem_cons.mpr ⟨by k_mem, List.forall_mem_cons.mpr ⟨by k_mem, List.forall_mem_nil _⟩⟩⟩)) (by k_asm) (by with_reducible assumption) (by k_updF) (by exact tab_nil) (by exact fun _ hq => nomatch hq) (by exact rfl) (by exact rfl) ?_); intro _ _ _ _ _ _ _ _ _ _ N' _ _ l1' _; (have z2' := lt_hd l1'); (try dsimp only at N'))))
          | ((with_reducible show wpAny _ _ (call (Value.ref _) _) _ _ _); first | (with_reducible ((k_here; k_dflt (first | ((with_reducible show wpAny _ _ (call (Value.ref 171) _) _ _ _); refine heardHere ?_) | ((with_reducible show wpAny _ _ (call (Value.ref 145) _) _ _ _); refine heardHere ?_) | ((with_reducible show wpAny _ _ (call (Value.ref 72) _) _ _ _); refine heardHere ?_) | ((with_reducible show wpAny _ _ (call (Value.ref 103) _) _ _ _); refine heardHere ?_) | ((with_reducible show wpAny _ _ (call (Value.ref 96) _) _ _ _); refine' listed_rows_spec (by k_asm) (by k_asm) (by k_asm) (by k_asm) (by k_asm) (by rfl) (by first | exact room1 (by with_reducible assumption) (by decide) | ktr_room) (by first | exact units1 (by with_reducible assumption) (by decide) | ktr_units) _ _ _ _ _ _ _ (by k_mem) (by with_reducible assumption) (by with_reducible assumption) (by with_reducible assumption) ?_; intro _ _ _ _ _ _ _ _; (try k_fold)))))) | ((k_here; k_dflt (first | ((with_reducible show wpAny _ _ (call (Value.ref 171) _) _ _ _); refine heardHere ?_) | ((with_reducible show wpAny _ _ (call (Value.ref 145) _) _ _ _); refine heardHere ?_) | ((with_reducible show wpAny _ _ (call (Value.ref 72) _) _ _ _); refine heardHere ?_) | ((with_reducible show wpAny _ _ (call (Value.ref 103) _) _ _ _); refine heardHere ?_) | ((with_reducible show wpAny _ _ (call (Value.ref 96) _) _ _ _); refine' listed_rows_spec (by k_asm) (by k_asm) (by k_asm) (by k_asm) (by k_asm) (by rfl) (by first | exact room1 (by with_reducible assumption) (by decide) | ktr_room) (by first | exact units1 (by with_reducible assumption) (by decide) | ktr_units) _ _ _ _ _ _ _ (by k_mem) (by with_reducible assumption) (by with_reducible assumption) (by with_reducible assumption) ?_; intro _ _ _ _ _ _ _ _; (try k_fold))))))
          | (first | (with_reducible ((k_here; (with_reducible show wpAny _ _ (compareOp CmpOp.NotEq (Value.ref _) (Value.ref _)) _ _ _); k_dflt (first | (refine' (fun N m mb T Tb l lb p n u z1 => td_ne N m mb l lb T Tb p n u z1) (by k_asm) (by k_mem) (by k_mem) (by with_reducible assumption) (by with_reducible assumption) (by with_reducible assumption) (by with_reducible assumption) (by first | exact List.Perm.refl _ | with_reducible assumption) (by with_reducible assumption) (by units_room) ?_) | (refine' strs_ne (by k_asm) (by k_mem) (by k_mem) (by with_reducible assumption) (by with_reducible assumption) (by with_reducible assumption) (by units_room) ?_))))) | ((k_here; (with_reducible show wpAny _ _ (compareOp CmpOp.NotEq (Value.ref _) (Value.ref _)) _ _ _); k_dflt (first | (refine' (fun N m mb T Tb l lb p n u z1 => td_ne N m mb l lb T Tb p n u z1) (by k_asm) (by k_mem) (by k_mem) (by with_reducible assumption) (by with_reducible assumption) (by with_reducible assumption) (by with_reducible assumption) (by first | exact List.Perm.refl _ | with_reducible assumption) (by with_reducible assumption) (by units_room) ?_) | (refine' strs_ne (by k_asm) (by k_mem) (by k_mem) (by with_reducible assumption) (by with_reducible assumption) (by with_reducible assumption) (by units_room) ?_)))))
          | ((with_reducible show wpAny _ _ (subscriptTail (Expr.Name _ _) (Expr.Name _ _) (Value.ref _) (Value.int _ _)) _ _ _); first | (with_reducible ((k_here; k_dflt (refine' td_item (by k_asm) (by k_mem) (by with_reducible assumption) (by with_reducible assumption) (by with_reducible assumption) ?_ (by with_unfolding_all rfl) (by intro _; with_unfolding_all rfl); intro _)))) | ((k_here; k_dflt (refine' td_item (by k_asm) (by k_mem) (by with_reducible assumption) (by with_reducible assumption) (by with_reducible assumption) ?_ (by with_unfolding_all rfl) (by intro _; with_unfolding_all rfl); intro _))))
          | ((with_reducible show wpAny _ _ (call (Value.builtin "sorted") _) _ _ _); first | (with_reducible ((k_here; k_dflt (refine' td_sorted (by rfl) (by k_asm) (by k_asm) (by k_mem) (by with_reducible assumption) (by with_reducible assumption) (by with_reducible assumption) ?_); intro _ _ _ _ _ _ _ _ _))) | ((k_here; k_dflt (refine' td_sorted (by rfl) (by k_asm) (by k_asm) (by k_mem) (by with_reducible assumption) (by with_reducible assumption) (by with_reducible assumption) ?_); intro _ _ _ _ _ _ _ _ _)))
          | ((with_reducible show wpAny _ _ (eval (Expr.ListComp _ _ _ _) _) _ _ _); first | (with_reducible ((k_here; (with_reducible show wpAny _ _ (eval (Expr.ListComp (Expr.BinOp _ _ _ _) _ _ _) _) _ _ _); k_dflt (refine LCg.ListComp_U (F₀ := by k_asm) (by with_unfolding_all rfl) (by decide) (by rfl) (by decide) (by rfl) ?_)))) | ((k_here; (with_reducible show wpAny _ _ (eval (Expr.ListComp (Expr.BinOp _ _ _ _) _ _ _) _) _ _ _); k_dflt (refine LCg.ListComp_U (F₀ := by k_asm) (by with_unfolding_all rfl) (by decide) (by rfl) (by decide) (by rfl) ?_))))
          | (first | (with_reducible ((k_here; (with_reducible show wpAny _ _ (eval (Expr.Call (Expr.Name _ _) _ [] _) _) _ _ _); k_dflt (refine Call_ ?_)))) | ((k_here; (with_reducible show wpAny _ _ (eval (Expr.Call (Expr.Name _ _) _ [] _) _) _ _ _); k_dflt (refine Call_ ?_))))
          | ((with_reducible show wpAny _ _ (pyIter (Value.ref _)) _ _ _); first | (with_reducible ((k_here; k_dflt (refine heardHere ?_)))) | ((k_here; k_dflt (refine heardHere ?_))))
          | ((with_reducible show wpAny _ _ (exec (Stmt.For (Expr.Name _ _) (Expr.Name _ _) _ [] _) _) _ _ _); first | (with_reducible ((k_here; (rename Fr _ _ _ _ => lF'); (with_unfolding_all refine' For_invVF lF' ?k1 ?k2 ?_; (case k1 => exact rfl); (case k2 => exact rfl); k_whole)))) | ((k_here; (rename Fr _ _ _ _ => lF'); (with_unfolding_all refine' For_invVF lF' ?k1 ?k2 ?_; (case k1 => exact rfl); (case k2 => exact rfl); k_whole))))
          | ((with_reducible show wpAny _ _ (storeName _ _ _) _ _ _); k_here; k_dflt (first | (refine' storeAI s1 (by rfl) (by rfl) (by k_asm) (by k_asm) rfl rfl rfl ?_; k_whole; intro _ _ _ _ _) | (refine' storeAS s1 (by rfl) (by rfl) (by k_asm) (by k_asm) rfl rfl rfl ?_; k_whole; intro _ _ _ _ _) | (refine' storeA s1 (by rfl) (by rfl) (by k_asm) (by k_asm) rfl rfl rfl ?_; k_whole; intro _ _ _ _)); (try k_sweep))
          | ((with_reducible show wpAny _ _ (exec _ _) _ _ _); k_here; k_dflt (refine' anchorE s1 (by k_asm) rfl rfl rfl rfl ?_; k_whole; intro _); (try k_fold); walk1)
          | ((with_reducible show wpAny _ _ (exec _ _) _ _ _); k_here; k_fold; walk1)
          | walk1
          | (dsimp only; walk1)
          | (leave1; walk_say "STEP leave1"; try dsimp only)
          | fail "no step")
        unfold HeardHere
        refine' heardL BG ?FC XG ?NC TG XG TG ktsDicts_nil rfl ?dC ?uC _ _ _ _ _ _ _ _ _ _ _ _ ?hf0 ?hoc ?hoc1 ?hoc2 ?er
        case FC => k_asm
        case NC => k_asm
        case dC => ktr_room
        case uC => ktr_units
        case hf0 => k_mem
        case hoc => k_mem
        case hoc1 => with_reducible assumption
        case hoc2 => with_reducible assumption
        case er =>
          intro h₀' DC tC1 tC2 hC tkC z1 z2 z3 z4 z5
          have FD := turn_nil_fr z1 z4
          have ND := turn_nil_news z1 z5
          repeat' (first
            | (k_unfold; (try dsimp only))
            | (k_end; wrow_close)
            | ((with_reducible show LCg.CompSrc _ _ _ _ _ _ _ _ _ _ _ _ _ _); first | (with_reducible (((rename LedOk _ _ _ _ _ _ _ _ _ => lK'); refine heardHere ?_))) | (((rename LedOk _ _ _ _ _ _ _ _ _ => lK'); refine heardHere ?_)))
            | ((with_reducible show wpAny _ _ (eval (Expr.Lambda _ _ _ _) _) _ _ _); first | (with_reducible ((k_here; k_dflt (refine' lamL (rest := []) (by k_asm) (by exact newsSub (b := [(173, tabObj #[]), (161, tabObj _), (168, tabObj _)]) (by k_asm) (List.forall_mem_cons.mpr ⟨by k_mem, List.forall_mem_cons.mpr ⟨by k_mem, List.forall_mem_cons.mpr ⟨by k_mem, List.forall_mem_nil _⟩⟩⟩)) (by k_asm) (by with_reducible assumption) (by k_updF) (by exact tab_nil) (by exact fun _ hq => nomatch hq) (by exact rfl) (by exact rfl) ?_); intro _ _ _ _ _ _ _ _ _ _ N' _ _ l1' _; (have z2' := lt_hd l1'); (try dsimp only at N')))) | ((k_here; k_dflt (refine' lamL (rest := []) (by k_asm) (by exact newsSub (b := [(173, tabObj #[]), (161, tabObj _), (168, tabObj _)]) (by k_asm) (List.forall_mem_cons.mpr ⟨by k_mem, List.forall_mem_cons.mpr ⟨by k_mem, List.forall_mem_cons.mpr ⟨by k_mem, List.forall_mem_nil _⟩⟩⟩)) (by k_asm) (by with_reducible assumption) (by k_updF) (by exact tab_nil) (by exact fun _ hq => nomatch hq) (by exact rfl) (by exact rfl) ?_); intro _ _ _ _ _ _ _ _ _ _ N' _ _ l1' _; (have z2' := lt_hd l1'); (try dsimp only at N'))))
            | ((with_reducible show wpAny _ _ (call (Value.ref _) _) _ _ _); first | (with_reducible ((k_here; k_dflt (first | ((with_reducible show wpAny _ _ (call (Value.ref 171) _) _ _ _); refine heardHere ?_) | ((with_reducible show wpAny _ _ (call (Value.ref 145) _) _ _ _); refine heardHere ?_) | ((with_reducible show wpAny _ _ (call (Value.ref 72) _) _ _ _); refine heardHere ?_) | ((with_reducible show wpAny _ _ (call (Value.ref 103) _) _ _ _); refine heardHere ?_) | ((with_reducible show wpAny _ _ (call (Value.ref 96) _) _ _ _); refine' listed_rows_spec (by k_asm) (by k_asm) (by k_asm) (by k_asm) (by k_asm) (by rfl) (by first | exact room1 (by with_reducible assumption) (by decide) | ktr_room) (by first | exact units1 (by with_reducible assumption) (by decide) | ktr_units) _ _ _ _ _ _ _ (by k_mem) (by with_reducible assumption) (by with_reducible assumption) (by with_reducible assumption) ?_; intro _ _ _ _ _ _ _ _; (try k_fold)))))) | ((k_here; k_dflt (first | ((with_reducible show wpAny _ _ (call (Value.ref 171) _) _ _ _); refine heardHere ?_) | ((with_reducible show wpAny _ _ (call (Value.ref 145) _) _ _ _); refine heardHere ?_) | ((with_reducible show wpAny _ _ (call (Value.ref 72) _) _ _ _); refine heardHere ?_) | ((with_reducible show wpAny _ _ (call (Value.ref 103) _) _ _ _); refine heardHere ?_) | ((with_reducible show wpAny _ _ (call (Value.ref 96) _) _ _ _); refine' listed_rows_spec (by k_asm) (by k_asm) (by k_asm) (by k_asm) (by k_asm) (by rfl) (by first | exact room1 (by with_reducible assumption) (by decide) | ktr_room) (by first | exact units1 (by with_reducible assumption) (by decide) | ktr_units) _ _ _ _ _ _ _ (by k_mem) (by with_reducible assumption) (by with_reducible assumption) (by with_reducible assumption) ?_; intro _ _ _ _ _ _ _ _; (try k_fold))))))
            | (first | (with_reducible ((k_here; (with_reducible show wpAny _ _ (compareOp CmpOp.NotEq (Value.ref _) (Value.ref _)) _ _ _); k_dflt (first | (refine' (fun N m mb T Tb l lb p n u z1 => td_ne N m mb l lb T Tb p n u z1) (by k_asm) (by k_mem) (by k_mem) (by with_reducible assumption) (by with_reducible assumption) (by with_reducible assumption) (by with_reducible assumption) (by first | exact List.Perm.refl _ | with_reducible assumption) (by with_reducible assumption) (by units_room) ?_) | (refine' strs_ne (by k_asm) (by k_mem) (by k_mem) (by with_reducible assumption) (by with_reducible assumption) (by with_reducible assumption) (by units_room) ?_))))) | ((k_here; (with_reducible show wpAny _ _ (compareOp CmpOp.NotEq (Value.ref _) (Value.ref _)) _ _ _); k_dflt (first | (refine' (fun N m mb T Tb l lb p n u z1 => td_ne N m mb l lb T Tb p n u z1) (by k_asm) (by k_mem) (by k_mem) (by with_reducible assumption) (by with_reducible assumption) (by with_reducible assumption) (by with_reducible assumption) (by first | exact List.Perm.refl _ | with_reducible assumption) (by with_reducible assumption) (by units_room) ?_) | (refine' strs_ne (by k_asm) (by k_mem) (by k_mem) (by with_reducible assumption) (by with_reducible assumption) (by with_reducible assumption) (by units_room) ?_)))))
            | ((with_reducible show wpAny _ _ (subscriptTail (Expr.Name _ _) (Expr.Name _ _) (Value.ref _) (Value.int _ _)) _ _ _); first | (with_reducible ((k_here; k_dflt (refine' td_item (by k_asm) (by k_mem) (by with_reducible assumption) (by with_reducible assumption) (by with_reducible assumption) ?_ (by with_unfolding_all rfl) (by intro _; with_unfolding_all rfl); intro _)))) | ((k_here; k_dflt (refine' td_item (by k_asm) (by k_mem) (by with_reducible assumption) (by with_reducible assumption) (by with_reducible assumption) ?_ (by with_unfolding_all rfl) (by intro _; with_unfolding_all rfl); intro _))))
            | ((with_reducible show wpAny _ _ (call (Value.builtin "sorted") _) _ _ _); first | (with_reducible ((k_here; k_dflt (refine' td_sorted (by rfl) (by k_asm) (by k_asm) (by k_mem) (by with_reducible assumption) (by with_reducible assumption) (by with_reducible assumption) ?_); intro _ _ _ _ _ _ _ _ _))) | ((k_here; k_dflt (refine' td_sorted (by rfl) (by k_asm) (by k_asm) (by k_mem) (by with_reducible assumption) (by with_reducible assumption) (by with_reducible assumption) ?_); intro _ _ _ _ _ _ _ _ _)))
            | ((with_reducible show wpAny _ _ (eval (Expr.ListComp _ _ _ _) _) _ _ _); first | (with_reducible ((k_here; (with_reducible show wpAny _ _ (eval (Expr.ListComp (Expr.BinOp _ _ _ _) _ _ _) _) _ _ _); k_dflt (refine LCg.ListComp_U (F₀ := by k_asm) (by with_unfolding_all rfl) (by decide) (by rfl) (by decide) (by rfl) ?_)))) | ((k_here; (with_reducible show wpAny _ _ (eval (Expr.ListComp (Expr.BinOp _ _ _ _) _ _ _) _) _ _ _); k_dflt (refine LCg.ListComp_U (F₀ := by k_asm) (by with_unfolding_all rfl) (by decide) (by rfl) (by decide) (by rfl) ?_))))
            | (first | (with_reducible ((k_here; (with_reducible show wpAny _ _ (eval (Expr.Call (Expr.Name _ _) _ [] _) _) _ _ _); k_dflt (refine Call_ ?_)))) | ((k_here; (with_reducible show wpAny _ _ (eval (Expr.Call (Expr.Name _ _) _ [] _) _) _ _ _); k_dflt (refine Call_ ?_))))
            | ((with_reducible show wpAny _ _ (pyIter (Value.ref _)) _ _ _); first | (with_reducible ((k_here; k_dflt (refine heardHere ?_)))) | ((k_here; k_dflt (refine heardHere ?_))))
            | ((with_reducible show wpAny _ _ (exec (Stmt.For (Expr.Name _ _) (Expr.Name _ _) _ [] _) _) _ _ _); first | (with_reducible ((k_here; (rename Fr _ _ _ _ => lF'); (with_unfolding_all refine' For_invVF lF' ?k1 ?k2 ?_; (case k1 => exact rfl); (case k2 => exact rfl); k_whole)))) | ((k_here; (rename Fr _ _ _ _ => lF'); (with_unfolding_all refine' For_invVF lF' ?k1 ?k2 ?_; (case k1 => exact rfl); (case k2 => exact rfl); k_whole))))
            | ((with_reducible show wpAny _ _ (storeName _ _ _) _ _ _); k_here; k_dflt (first | (refine' storeAI s1 (by rfl) (by rfl) (by k_asm) (by k_asm) rfl rfl rfl ?_; k_whole; intro _ _ _ _ _) | (refine' storeAS s1 (by rfl) (by rfl) (by k_asm) (by k_asm) rfl rfl rfl ?_; k_whole; intro _ _ _ _ _) | (refine' storeA s1 (by rfl) (by rfl) (by k_asm) (by k_asm) rfl rfl rfl ?_; k_whole; intro _ _ _ _)); (try k_sweep))
            | ((with_reducible show wpAny _ _ (exec _ _) _ _ _); k_here; k_dflt (refine' anchorE s1 (by k_asm) rfl rfl rfl rfl ?_; k_whole; intro _); (try k_fold); walk1)
            | ((with_reducible show wpAny _ _ (exec _ _) _ _ _); k_here; k_fold; walk1)
            | walk1
            | (dsimp only; walk1)
            | (leave1; walk_say "STEP leave1"; try dsimp only)
            | fail "no step"))
end
end Mine
end
set_option maxHeartbeats 1000000 in
theorem PySem.Challenge.cw_pc0001_01_holds : PySem.Challenge.rw_pc0001_01.Holds := by
  exact Mine.tt
