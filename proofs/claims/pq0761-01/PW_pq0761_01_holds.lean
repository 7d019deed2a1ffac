import PyProof.Rows.All
import Wide.All
import OpenK.AllK
import Wide.FinOn
import Lean
import PySem.Challenge.RW_pq0761_01
open PySem PySem.W PySem.Spec PySem.Calls PyProof.Rows
set_option Elab.async false
set_option rowWalk.seconds 0
set_option linter.unusedSimpArgs false
set_option linter.unusedVariables false
namespace Mine
set_option maxRecDepth 100000
set_option maxHeartbeats 8000000
theorem wellQ : PySem.Challenge.rw_pq0761_01.wellSaid = true := by
  rw [PySem.W.Fast.te9446332074065402090]
  decide +kernel
def viewQ : Program := PySem.W.view PySem.Challenge.pw_pq0761_01 [1, 2, 4, 5, 6, 7, 9, 10, 11, 12, 13, 14, 15, 16, 17, 18, 19, 21, 22, 23, 24, 25, 26, 27, 29, 30, 31]
local macro_rules | `(tactic| o_law) => `(tactic| refine holds_law wellQ fun said => ?_)
local macro_rules | `(tactic| o_head $H) => `(tactic| (refine holds_open (q := viewQ) (loose := []) (Xt := fun s => xlAt viewQ [] s && recOk (RowW.records PySem.Challenge.rw_pq0761_01.row.toRowW) s) (XP := XL viewQ []) (Yf := Hook.obs $H) (Ya := Hook.val $H) (YP := Hook.says $H) (N := 4986) ?hl (Hook.of $H) (Hook.keeps $H) (fun s e => xl_of s (Bool.and_eq_true_iff.mp e).1) XL.keeps (by rfl) (by rfl) (by rfl) (fun s e => recFacts_of (Bool.and_eq_true_iff.mp e).2) (by rfl) (by first | assumption | decide +kernel) (by decide +kernel) ⟨rfl, rfl, rfl, rfl, rfl, by decide +kernel⟩ ?hw ?hc; (case hl => (intro w; unfold openEnds fencedOpening topFrom; rw [PySem.W.Fast.te4187177175401517315, PySem.W.Fast.te14082659384304107361, PySem.W.Fast.te10274390034422433532, PySem.W.Fast.te1435165496053646825, PySem.W.Fast.te14289696077712309145, PySem.W.Fast.te14364793385576792824]; kernel_rfl!))))
open_top hd for PySem.Challenge.rw_pq0761_01
local macro_rules | `(tactic| walk_at $s:str) => `(tactic| k_extra $s)
abbrev Led := List (Addr × Obj)
noncomputable def SpecP (w : World) (lv : Nat) (f : Addr) (vs : List Value) (R : Tok → Value) : Prop :=
  ∀ (mean : ExcName → Option Value) (mg mb : Str → Option Value) (dp un : Nat) (gd : Option (List Code)) (cn : Str) (cs : Scope) (a : Addr) (ccd : Value) (cl : List (Str × Addr)) (outer : List Env) (A₀ : Around) (base h₀ : Heap) (L : Addr) (m : Str → Option Value) (s : Shared) (news : Led) (Q E : Value → Shared → Prop),
    Below A₀ base outer h₀ → Fr h₀ L s.heap m → (hd.heap_1 w.params).In h₀ → News h₀ L s.heap news → Top viewQ (looseW viewQ []) mean mg mb h₀ → cs.kind = .function → dp + lv < recursionLimit → un + 8 * lv < cLine →
    (∀ t h' tk', Fr h₀ L h' m → News h₀ L h' news → Q (R t) { s with heap := h', toks := tk' }) →
    wpAny (model PySem.Challenge.pw_pq0761_01 w) (ktrTop dp un gd cn cs L a ccd cl outer) (call (.ref f) vs) Q E s
noncomputable def SpecC (w : World) (lv : Nat) (f : Addr) (vs : List Value) (news : Led) (Ret : Value → Led → Prop) : Prop :=
  ∀ (mean : ExcName → Option Value) (mg mb : Str → Option Value) (dp un : Nat) (gd : Option (List Code)) (cn : Str) (cs : Scope) (a : Addr) (ccd : Value) (cl : List (Str × Addr)) (outer : List Env) (A₀ : Around) (base h₀ : Heap) (L : Addr) (m : Str → Option Value) (s : Shared) (Q E : Value → Shared → Prop),
    Below A₀ base outer h₀ → Fr h₀ L s.heap m → (hd.heap_1 w.params).In h₀ → News h₀ L s.heap news → Top viewQ (looseW viewQ []) mean mg mb h₀ → cs.kind = .function → dp + lv < recursionLimit → un + 8 * lv < cLine →
    (∀ v news' h' tk', Fr h₀ L h' m → News h₀ L h' news' → Ret v news' → Q v { s with heap := h', toks := tk' }) →
    wpAny (model PySem.Challenge.pw_pq0761_01 w) (ktrTop dp un gd cn cs L a ccd cl outer) (call (.ref f) vs) Q E s
section
variable {w : World} {lv : Nat} {f : Addr} {vs : List Value} {R : Tok → Value} {mean : ExcName → Option Value} {mg mb : Str → Option Value} {dp un : Nat} {gd : Option (List Code)} {cn : Str} {cs : Scope} {a : Addr} {ccd : Value} {cl : List (Str × Addr)} {outer : List Env} {A₀ : Around} {base h₀ : Heap} {L : Addr} {m : Str → Option Value} {s : Shared} {news : Led} {Q E : Value → Shared → Prop} {Ret : Value → Led → Prop}
theorem SpecP.use (C : SpecP w lv f vs R) (B : Below A₀ base outer h₀) (F : Fr h₀ L s.heap m) (X : (hd.heap_1 w.params).In h₀) (N : News h₀ L s.heap news) (T : Top viewQ (looseW viewQ []) mean mg mb h₀) (hk : cs.kind = .function) (hd : dp + lv < recursionLimit) (hu : un + 8 * lv < cLine)
    (ret : ∀ t h' tk', Fr h₀ L h' m → News h₀ L h' news → Q (R t) { s with heap := h', toks := tk' }) :
    wpAny (model PySem.Challenge.pw_pq0761_01 w) (ktrTop dp un gd cn cs L a ccd cl outer) (call (.ref f) vs) Q E s := C _ _ _ _ _ _ _ _ _ _ _ _ _ _ _ _ _ _ _ _ _ B F X N T hk hd hu ret
theorem SpecC.use (C : SpecC w lv f vs news Ret) (B : Below A₀ base outer h₀) (F : Fr h₀ L s.heap m) (X : (hd.heap_1 w.params).In h₀) (N : News h₀ L s.heap news) (T : Top viewQ (looseW viewQ []) mean mg mb h₀) (hk : cs.kind = .function) (hd : dp + lv < recursionLimit) (hu : un + 8 * lv < cLine)
    (ret : ∀ v news' h' tk', Fr h₀ L h' m → News h₀ L h' news' → Ret v news' → Q v { s with heap := h', toks := tk' }) :
    wpAny (model PySem.Challenge.pw_pq0761_01 w) (ktrTop dp un gd cn cs L a ccd cl outer) (call (.ref f) vs) Q E s := C _ _ _ _ _ _ _ _ _ _ _ _ _ _ _ _ _ _ _ _ B F X N T hk hd hu ret
theorem ret_boolP {b : Bool} (h : ∀ (t : Tok) h' tk', Fr h₀ L h' m → News h₀ L h' news → Q (.bool b) { s with heap := h', toks := tk' }) {b' : Bool} {h' : Heap} {tk' : Nat} (e : b' = b) (F : Fr h₀ L h' m) (N : News h₀ L h' news) :
    Q (.bool b') { s with heap := h', toks := tk' } := by subst e; exact h 0 h' tk' F N
theorem ret_intP {b : Int} (h : ∀ (t : Tok) h' tk', Fr h₀ L h' m → News h₀ L h' news → Q (.int b t) { s with heap := h', toks := tk' }) {b' : Int} {t : Tok} {h' : Heap} {tk' : Nat} (e : b' = b) (F : Fr h₀ L h' m) (N : News h₀ L h' news) :
    Q (.int b' t) { s with heap := h', toks := tk' } := by subst e; exact h t h' tk' F N
end
theorem gen_tok {α : Type} {M : Model} {A : Around} {t : Sem α} {Q : α → Shared → Prop} {E : Value → Shared → Prop} {h : Heap} {g : Array GenState} {d : Drawn} {X : Nat} {o : OsState} (H : ∀ tk, wpAny M A t Q E ⟨h, g, d, tk, o⟩) : wpAny M A t Q E ⟨h, g, d, X, o⟩ := H X
theorem noE {α : Type} {M : Model} {A : Around} {t : Sem α} {Q : α → Shared → Prop} {E : Value → Shared → Prop} {s : Shared} (H : wpAny M A t Q (fun _ _ => False) s) : wpAny M A t Q E s := wpAny_mono H (fun _ _ x => x) (fun _ _ x => x.elim)
theorem fill : (∀ w : World, hd.heap_1 w.params = hd.heap_1 w.params) ∧ PySem.Challenge.rw_pq0761_01 = PySem.Challenge.rw_pq0761_01 := by
  k_fill
  exact ⟨fun _ => rfl, rfl⟩
noncomputable def isDigit (c : Str) : Bool := !decide (c.cps.toList < (Str.ofString "0").cps.toList) && !decide ((Str.ofString "9").cps.toList < c.cps.toList)
theorem is_digit_spec (w : World) (c : Str) (tc : Tok) :
    SpecP w 1 67 [.str c tc] (fun _ => .bool (isDigit c)) := by
  unfold SpecP
  intro mean mg mb dp un gd cn cs a ccd cl outer A₀ base h₀ L m s news Q E B F X N T hk hd hu hret
  refine wpAny_call ?_
  k_dflt ktr_enter
  k_steps
  all_goals (refine ret_boolP hret ?_ (by k_asm) (by k_asm))
  all_goals simp_all [isDigit]
theorem map_self {m : Str → Option Value} {x : Str} {v : Value} (h : m x = some v) : m = fun y => if y = x then some v else m y := by
  funext y
  by_cases e : y = x
  · rw [if_pos e, e, h]
  · rw [if_neg e]
theorem map_twice {m : Str → Option Value} {x : Str} {u v : Option Value} : (fun y => if y = x then v else (fun y => if y = x then u else m y) y) = fun y => if y = x then v else m y := by
  funext y
  by_cases e : y = x
  · rw [if_pos e, if_pos e]
  · simp only [if_neg e]
abbrev ke (w : World) (x : String) (t : Tok) (v : Value) : DictEntry := ⟨PyData.keyHash w.params (Str.ofString x), .str (Str.ofString x) t, v⟩
noncomputable def scanW (p : Int → Bool) : Nat → Int → Int
  | 0, i => i
  | n + 1, i => if p i then scanW p n (i + 1) else i
noncomputable def endW (len : Nat) (p : Int → Bool) (i : Int) : Int := scanW p (len - i.toNat) i
theorem endW_stop {len : Nat} {p : Int → Bool} {j : Int} (h : p j = false) : endW len p j = j := by
  unfold endW
  cases len - j.toNat with
  | zero => rfl
  | succ n => simp [scanW, h]
theorem endW_step {len : Nat} {p : Int → Bool} {j : Int} (h0 : 0 ≤ j) (hl : j < (len : Int)) (h : p j = true) : endW len p (j + 1) = endW len p j := by
  unfold endW
  have e : len - j.toNat = (len - (j + 1).toNat) + 1 := by omega
  rw [e]
  simp [scanW, h]
section
variable {prog : Program} {w : World} {A : Around} {E : Value → Shared → Prop} {Q : Flow → Shared → Prop} {s : Shared} {env : Env} {h₀ : Heap} {L : Addr}
noncomputable def WiEnd (h₀ : Heap) (L : Addr) (s : Shared) (m : Str → Option Value) (news : Led) (x : Str) (I : Int → Prop) (μ : Int → Nat) (j : Int) (s₃ : Shared) : Prop :=
  ∃ h' tk j' tj', s₃ = { s with heap := h', toks := tk } ∧ Fr h₀ L h' (fun y => if y = x then some (.int j' tj') else m y) ∧ News h₀ L h' news ∧ I j' ∧ μ j' < μ j
noncomputable def WiPost (h₀ : Heap) (L : Addr) (s : Shared) (m : Str → Option Value) (news : Led) (x : Str) (I : Int → Prop) (μ : Int → Nat) (Q : Flow → Shared → Prop) (j : Int) (f : Flow) (s₃ : Shared) : Prop :=
  match f with
  | .brk => Q .next s₃
  | .ret v => Q (.ret v) s₃
  | _ => WiEnd h₀ L s m news x I μ j s₃
theorem wi_end {m m' : Str → Option Value} {news : Led} {x : Str} {I : Int → Prop} {μ : Int → Nat} {j j' : Int} {h' : Heap} {tk : Nat} {tj' : Tok}
    (F : Fr h₀ L h' m') (e : m' = fun y => if y = x then some (.int j' tj') else m y) (N : News h₀ L h' news) (hI : I j') (hm : μ j' < μ j) : WiEnd h₀ L s m news x I μ j { s with heap := h', toks := tk } :=
  ⟨h', tk, j', tj', rfl, e ▸ F, N, hI, hm⟩
theorem While_int {test : Expr} {body : List Stmt} {pos : Pos} {m : Str → Option Value} {news : Led} (x : Str) (I : Int → Prop) (μ : Int → Nat) {i : Int} {ti : Tok}
    (F : Fr h₀ L s.heap m) (N : News h₀ L s.heap news) (hx : m x = some (.int i ti)) (hI : I i)
    (turn : ∀ j tj h₁ tk₁, I j → Fr h₀ L h₁ (fun y => if y = x then some (.int j tj) else m y) → News h₀ L h₁ news →
      wpAny (model prog w) A (isTrue test env (eval test env)) (fun b s₂ =>
        if b = true then wpAny (model prog w) A (execs body env) (WiPost h₀ L s m news x I μ Q j) E s₂ else Q .next s₂) E { s with heap := h₁, toks := tk₁ })
    (hE : PassesOwn (model prog w) A env E := by passes_own) :
    wpAny (model prog w) A (exec (.While test body [] pos) env) Q E s := by
  refine While_inv2 (fun n m₁ nx => ∃ j tj, n = μ j ∧ nx = news ∧ I j ∧ m₁ = fun y => if y = x then some (.int j tj) else m y) F N ⟨i, ti, rfl, rfl, hI, map_self hx⟩ ?_ hE
  rintro n m₁ nx h tk F₁ N₁ ⟨j, tj, rfl, rfl, hj, rfl⟩
  refine wpAny_mono (turn j tj h tk hj F₁ N₁) (fun b s₂ p => ?_) fun _ _ x => x
  cases b with
  | false => simpa using p
  | true =>
    simp only [if_true] at p ⊢
    refine wpAny_mono p (fun f s₃ q => ?_) fun _ _ x => x
    cases f with
    | ret v => exact q
    | brk => exact q
    | next =>
      obtain ⟨h', tk', j', tj', rfl, F', N', hI', hm'⟩ := q
      exact ⟨h', tk', _, _, _, rfl, F', N', hm', j', tj', rfl, rfl, hI', rfl⟩
    | cont =>
      obtain ⟨h', tk', j', tj', rfl, F', N', hI', hm'⟩ := q
      exact ⟨h', tk', _, _, _, rfl, F', N', hm', j', tj', rfl, rfl, hI', rfl⟩
noncomputable def WgEnd {σ : Type} (h₀ : Heap) (L : Addr) (s : Shared) (Mp : σ → Str → Option Value) (Ld : σ → Led) (I : σ → Prop) (μ : σ → Nat) (c : σ) (s₃ : Shared) : Prop :=
  ∃ h' tk c', s₃ = { s with heap := h', toks := tk } ∧ Fr h₀ L h' (Mp c') ∧ News h₀ L h' (Ld c') ∧ I c' ∧ μ c' < μ c
noncomputable def WgPost {σ : Type} (h₀ : Heap) (L : Addr) (s : Shared) (Mp : σ → Str → Option Value) (Ld : σ → Led) (I : σ → Prop) (μ : σ → Nat) (Q : Flow → Shared → Prop) (c : σ) (f : Flow) (s₃ : Shared) : Prop :=
  match f with
  | .brk => Q .next s₃
  | .ret v => Q (.ret v) s₃
  | _ => WgEnd h₀ L s Mp Ld I μ c s₃
theorem wg_end {σ : Type} {Mp : σ → Str → Option Value} {Ld : σ → Led} {I : σ → Prop} {μ : σ → Nat} {c : σ} {m' : Str → Option Value} {h' : Heap} {tk : Nat} {news' : Led} (c' : σ)
    (F : Fr h₀ L h' m') (e : m' = Mp c') (N : News h₀ L h' news') (hn : ∀ p ∈ Ld c', p ∈ news') (hI : I c') (hm : μ c' < μ c) : WgEnd h₀ L s Mp Ld I μ c { s with heap := h', toks := tk } :=
  ⟨h', tk, c', rfl, e ▸ F, fun p hp => N p (hn p hp), hI, hm⟩
theorem While_G {σ : Type} {test : Expr} {body : List Stmt} {pos : Pos} {m : Str → Option Value} {news : Led} (Mp : σ → Str → Option Value) (Ld : σ → Led) (I : σ → Prop) (μ : σ → Nat) (c₀ : σ)
    (F : Fr h₀ L s.heap m) (N : News h₀ L s.heap news) (hm : m = Mp c₀) (hn : ∀ p ∈ Ld c₀, p ∈ news) (hI : I c₀)
    (turn : ∀ c h₁ tk₁, I c → Fr h₀ L h₁ (Mp c) → News h₀ L h₁ (Ld c) →
      wpAny (model prog w) A (isTrue test env (eval test env)) (fun b s₂ =>
        if b = true then wpAny (model prog w) A (execs body env) (WgPost h₀ L s Mp Ld I μ Q c) E s₂ else Q .next s₂) E { s with heap := h₁, toks := tk₁ })
    (hE : PassesOwn (model prog w) A env E := by passes_own) :
    wpAny (model prog w) A (exec (.While test body [] pos) env) Q E s := by
  refine While_inv2 (fun n m₁ nx => ∃ c, n = μ c ∧ nx = Ld c ∧ I c ∧ m₁ = Mp c) F (news := Ld c₀) (fun p hp => N p (hn p hp)) ⟨c₀, rfl, rfl, hI, hm⟩ ?_ hE
  rintro n m₁ nx h tk F₁ N₁ ⟨c, rfl, rfl, hc, rfl⟩
  refine wpAny_mono (turn c h tk hc F₁ N₁) (fun b s₂ p => ?_) fun _ _ x => x
  cases b with
  | false => simpa using p
  | true =>
    simp only [if_true] at p ⊢
    refine wpAny_mono p (fun f s₃ q => ?_) fun _ _ x => x
    cases f with
    | ret v => exact q
    | brk => exact q
    | next =>
      obtain ⟨h', tk', c', rfl, F', N', hI', hm'⟩ := q
      exact ⟨h', tk', _, _, _, rfl, F', N', hm', c', rfl, rfl, hI', rfl⟩
    | cont =>
      obtain ⟨h', tk', c', rfl, F', N', hI', hm'⟩ := q
      exact ⟨h', tk', _, _, _, rfl, F', N', hm', c', rfl, rfl, hI', rfl⟩
end
section
variable {prog : Program} {w : World} {M : Model} {A : Around} {E : Value → Shared → Prop} {Q : Flow → Shared → Prop} {s : Shared} {env : Env} {h₀ : Heap} {L : Addr}
/-- what a statement leaves that is followed by others: it went on, P holds, the ledger stands -/
noncomputable def CutP (h₀ : Heap) (L : Addr) (m : Str → Option Value) (news : Led) (s : Shared) (P : Prop) (Q : Flow → Shared → Prop) (f : Flow) (s' : Shared) : Prop :=
  (f = .next ∧ P ∧ ∃ h tk, s' = { s with heap := h, toks := tk } ∧ Fr h₀ L h m ∧ News h₀ L h news) ∨ ((∃ v, f = .ret v) ∧ Q f s')
theorem cutP_next {m : Str → Option Value} {news : Led} {P : Prop} {h : Heap} {tk : Nat} (hP : P) (F : Fr h₀ L h m) (N : News h₀ L h news) : CutP h₀ L m news s P Q .next { s with heap := h, toks := tk } :=
  .inl ⟨rfl, hP, h, tk, rfl, F, N⟩
theorem cutP_ret {m : Str → Option Value} {news : Led} {P : Prop} {v : Value} {s' : Shared} (h : Q (.ret v) s') : CutP h₀ L m news s P Q (.ret v) s' := .inr ⟨⟨v, rfl⟩, h⟩
theorem cut_if {st : Stmt} {rest : List Stmt} (P : Prop) (m' : Str → Option Value) (news' : Led)
    (h1 : wpAny M A (exec st env) (CutP h₀ L m' news' s P Q) E s)
    (h2 : ∀ h tk, P → Fr h₀ L h m' → News h₀ L h news' → wpAny M A (execs rest env) Q E { s with heap := h, toks := tk }) : wpAny M A (execs (st :: rest) env) Q E s := by
  refine wpAny_execs_cons (wpAny_mono h1 (fun f s' hq => ?_) fun _ _ x => x)
  rcases hq with ⟨rfl, hP, h, tk, rfl, F, N⟩ | ⟨⟨v, rfl⟩, hq⟩
  · exact h2 h tk hP F N
  · exact hq
end
theorem sl_idx {i j : Int} {n : Nat} (h0 : 0 ≤ i) (h1 : 0 ≤ j) : PySem.Builtin.Str.strSliceIndices (some i) (some j) 1 n = PySem.Builtin.Str.strSliceIndices (some (min i n)) (some (min j n)) 1 n := by
  have a : ¬ i < 0 := by omega
  have b : ¬ j < 0 := by omega
  have c : ¬ (min i (n : Int)) < 0 := by omega
  have d : ¬ (min j (n : Int)) < 0 := by omega
  have h2 : (1 : Int) > 0 := by decide
  simp only [PySem.Builtin.Str.strSliceIndices, a, b, c, d, h2, if_false, if_true, Int.min_assoc, Int.min_self]
theorem sl_eq {x : Str} {i j : Int} (h0 : 0 ≤ i) (h1 : i ≤ j) : Txt.slice x (some i) (some j) = ⟨((x.cps.toList.drop i.toNat).take (j - i).toNat).toArray⟩ := by
  have e : Txt.slice x (some i) (some j) = Txt.slice x (some (min i x.length)) (some (min j x.length)) := by
    unfold Txt.slice
    rw [sl_idx h0 (by omega)]
  rw [e, beq_iff_eq.mp (slice_closesL (x := x) (i := min i x.length) (j := min j x.length) (by omega) (by omega) (by omega))]
  have hl : x.length = x.cps.toList.length := by simp [PySem.Str.length]
  congr 1
  congr 1
  by_cases hi : i ≤ x.length
  · have : min i (x.length : Int) = i := by omega
    rw [this]
    by_cases hj : j ≤ x.length
    · have : min j (x.length : Int) = j := by omega
      rw [this]
    · have : min j (x.length : Int) = x.length := by omega
      rw [this, List.take_of_length_le (by rw [List.length_drop]; omega), List.take_of_length_le (by rw [List.length_drop]; omega)]
  · rw [List.drop_eq_nil_of_le (by omega), List.drop_eq_nil_of_le (by omega)]
    simp
theorem sl_one {x : Str} {i : Int} (h0 : 0 ≤ i) : Txt.slice x (some i) (some (i + 1)) = ⟨(x.cps.toList[i.toNat]?.toList).toArray⟩ := by
  rw [sl_eq h0 (by omega)]
  have : (i + 1 - i).toNat = 1 := by omega
  rw [this, List.take_one, List.head?_drop]
theorem sl_out {x : Str} {i : Int} (h0 : 0 ≤ i) (h : ¬ i < (x.length : Int)) : Txt.slice x (some i) (some (i + 1)) = ⟨#[]⟩ := by
  rw [sl_one h0]
  have : x.cps.toList[i.toNat]? = none := by
    apply List.getElem?_eq_none
    have hl : x.length = x.cps.toList.length := by simp [PySem.Str.length]
    omega
  rw [this]
  rfl
noncomputable def leS (a b : Str) : Bool := !decide (b.cps.toList < a.cps.toList)
noncomputable def isLetter (c : Str) : Bool := (leS (Str.ofString "a") c && leS c (Str.ofString "z")) || (leS (Str.ofString "A") c && leS c (Str.ofString "Z"))
noncomputable def isHex (c : Str) : Bool := isDigit c || (leS (Str.ofString "A") c && leS c (Str.ofString "F"))
theorem lnsScan0 : True := by
  w_top off
  k_with_none
  k_with "mine pure" => ((case k1 => k_asm); (case k2 => k_asm); (case k3 => k_asm); (case k4 => k_asm); (case k5 => k_asm); (case k6 => first | exact rfl | assumption); (case k7 => ktr_room); (case k8 => ktr_units); intro t9z h9z tk9z F9z N9z; (try dsimp only); (try k_fold))
  k_with "execs cons" => (k_here; (with_reducible show wpAny _ _ _ _ _ (Shared.mk _ _ _ (_ + _) _)); refine gen_tok ?_; intro tk9z)
  k_with "execs nil" => (k_here; (with_reducible show wpAny _ _ _ _ _ (Shared.mk _ _ _ (_ + _) _)); refine gen_tok ?_; intro tk9z)
  k_with "WiPost" => (dsimp only [WiPost])
  k_with "mine bool" => (simp only [isLetter, isHex, leS, *, decide_true, decide_false, Bool.not_true, Bool.not_false, Bool.and_true, Bool.true_and, Bool.and_false, Bool.false_and, Bool.or_true, Bool.true_or, Bool.or_false, Bool.false_or, not_true_eq_false, not_false_eq_true])
  k_with "WgPost" => (dsimp only [WgPost])
  k_with "call ref" => (k_here; (with_reducible show wpAny _ _ (call (Value.ref 67) _) _ _ _); k_dflt ((refine' SpecP.use (is_digit_spec _ _ _) ?k1 ?k2 ?k3 ?k4 ?k5 ?k6 ?k7 ?k8 ?_); k_extra "mine pure"))
  trivial
theorem is_letter_spec (w : World) (c : Str) (tc : Tok) : SpecP w 1 60 [.str c tc] (fun _ => .bool (isLetter c)) := by
  unfold SpecP
  intro mean mg mb dp un gd cn cs a ccd cl outer A₀ base h₀ L m s news Q E hB9 hF9 hX9 hN9 hT9 hk hd hu hret
  refine wpAny_call ?_
  k_dflt (refine' code_def (binds := [(Str.ofString "char", Value.str c tc)]) ?k1 ?k2 ?k3 ?k4 ?k5 ?kA ?kF ?kK ?k6 ?k7 ?k8 ?k9 ?kB ?_ ?c2 ?c3 ?c4 ?c5; (case kA => exact rfl); (case kF => exact rfl); (case kK => assumption); (case k1 => k_asm); (case k2 => k_asm); (case k3 => k_asm); (case k4 => k_asm); (case k5 => k_asm); (case k6 => k_is); (case k7 => k_is); (case k8 => ktr_room); (case k9 => exact BindsTo.of_eq rfl); (case c5 => decide); (case kB => exact locs rfl); (case c2 => exact rfl); (case c3 => exact rfl); (case c4 => exact rfl); k_whole; intro g' L' h' FG' F' N' B' X' T'; (try dsimp only))
  refine gen_tok ?_
  intro tk0
  refine noE ?_
  k_steps
  all_goals (refine ret_boolP hret ?_ (by k_asm) (by k_asm))
  all_goals k_extra "mine bool"
theorem is_hex_spec (w : World) (c : Str) (tc : Tok) : SpecP w 2 74 [.str c tc] (fun _ => .bool (isHex c)) := by
  unfold SpecP
  intro mean mg mb dp un gd cn cs a ccd cl outer A₀ base h₀ L m s news Q E hB9 hF9 hX9 hN9 hT9 hk hd hu hret
  refine wpAny_call ?_
  k_dflt (refine' code_def (binds := [(Str.ofString "char", Value.str c tc)]) ?k1 ?k2 ?k3 ?k4 ?k5 ?kA ?kF ?kK ?k6 ?k7 ?k8 ?k9 ?kB ?_ ?c2 ?c3 ?c4 ?c5; (case kA => exact rfl); (case kF => exact rfl); (case kK => assumption); (case k1 => k_asm); (case k2 => k_asm); (case k3 => k_asm); (case k4 => k_asm); (case k5 => k_asm); (case k6 => k_is); (case k7 => k_is); (case k8 => ktr_room); (case k9 => exact BindsTo.of_eq rfl); (case c5 => decide); (case kB => exact locs rfl); (case c2 => exact rfl); (case c3 => exact rfl); (case c4 => exact rfl); k_whole; intro g' L' h' FG' F' N' B' X' T'; (try dsimp only))
  refine gen_tok ?_
  intro tk0
  refine noE ?_
  k_steps
  all_goals (refine ret_boolP hret ?_ (by k_asm) (by k_asm))
  all_goals simp_all [isHex, leS]
theorem lnsScan1 : True := by
  k_with "call ref" => (k_here; (with_reducible show wpAny _ _ (call (Value.ref 60) _) _ _ _); k_dflt ((refine' SpecP.use (is_letter_spec _ _ _) ?k1 ?k2 ?k3 ?k4 ?k5 ?k6 ?k7 ?k8 ?_); k_extra "mine pure"))
  k_with "call ref" => (k_here; (with_reducible show wpAny _ _ (call (Value.ref 74) _) _ _ _); k_dflt ((refine' SpecP.use (is_hex_spec _ _ _) ?k1 ?k2 ?k3 ?k4 ?k5 ?k6 ?k7 ?k8 ?_); k_extra "mine pure"))
  trivial
noncomputable def digP (s : Str) (j : Int) : Bool := isDigit (Txt.slice s (some j) (some (j + 1)))
noncomputable def hexP (s : Str) (j : Int) : Bool := isHex (Txt.slice s (some j) (some (j + 1)))
noncomputable def worP (s : Str) (j : Int) : Bool := isLetter (Txt.slice s (some j) (some (j + 1))) || isDigit (Txt.slice s (some j) (some (j + 1)))
theorem digP_lt {s : Str} {j : Int} (h0 : 0 ≤ j) (h : digP s j = true) : j < (s.length : Int) := by
  refine Decidable.by_contra fun hn => ?_
  rw [digP, sl_out h0 hn] at h
  revert h; decide
theorem hexP_lt {s : Str} {j : Int} (h0 : 0 ≤ j) (h : hexP s j = true) : j < (s.length : Int) := by
  refine Decidable.by_contra fun hn => ?_
  rw [hexP, sl_out h0 hn] at h
  revert h; decide
theorem worP_lt {s : Str} {j : Int} (h0 : 0 ≤ j) (h : worP s j = true) : j < (s.length : Int) := by
  refine Decidable.by_contra fun hn => ?_
  rw [worP, sl_out h0 hn] at h
  revert h; decide
noncomputable def digitsE (s : Str) (i : Int) : Int := endW s.length (digP s) i
noncomputable def hexE (s : Str) (i : Int) : Int := endW s.length (hexP s) i
noncomputable def wordE (s : Str) (i : Int) : Int := endW s.length (worP s) i
theorem digits_end_spec (w : World) (src : Str) (ts : Tok) (i : Int) (ti : Tok) (hsz : src.length ≤ 16777216) (h0 : 0 ≤ i) :
    SpecP w 2 130 [.str src ts, .int i ti] (fun t => .int (digitsE src i) t) := by
  unfold SpecP
  intro mean mg mb dp un gd cn cs a ccd cl outer A₀ base h₀ L m s news Q E hB9 hF9 hX9 hN9 hT9 hk hd hu hret
  refine wpAny_call ?_
  k_dflt (refine' code_def (binds := [(Str.ofString "source", Value.str src ts), (Str.ofString "at", Value.int i ti)]) ?k1 ?k2 ?k3 ?k4 ?k5 ?kA ?kF ?kK ?k6 ?k7 ?k8 ?k9 ?kB ?_ ?c2 ?c3 ?c4 ?c5; (case kA => exact rfl); (case kF => exact rfl); (case kK => assumption); (case k1 => k_asm); (case k2 => k_asm); (case k3 => k_asm); (case k4 => k_asm); (case k5 => k_asm); (case k6 => k_is); (case k7 => k_is); (case k8 => ktr_room); (case k9 => exact BindsTo.of_eq rfl); (case c5 => decide); (case kB => exact locs rfl); (case c2 => exact rfl); (case c3 => exact rfl); (case c4 => exact rfl); k_whole; intro g' L' h' FG' F' N' B' X' T'; (try dsimp only))
  refine gen_tok ?_
  intro tk0
  refine noE ?_
  refine wpAny_execs_cons ?_
  refine While_int (Str.ofString "at") (fun j => 0 ≤ j ∧ digitsE src j = digitsE src i) (fun j => src.length - j.toNat) (by assumption) (by assumption) rfl ⟨h0, rfl⟩ ?_ PassesOwn.never
  intro j tj h₁ tk₁ ⟨hj, he⟩ F₁ N₁
  k_steps
  · rename (_ = true) => hc
    have hp : digP src j = true := by simpa [digP, PyProof.Txt.length_slice_le] using hc
    have := digP_lt hj hp
    exact wi_end (by k_asm) map_twice (by k_asm) ⟨by omega, (endW_step hj this hp).trans he⟩ (by omega)
  · rename (_ = false) => hc
    have hp : digP src j = false := by simpa [digP, PyProof.Txt.length_slice_le] using hc
    exact ret_intP hret ((endW_stop hp).symm.trans he) (by k_asm) (by k_asm)
theorem word_end_spec (w : World) (src : Str) (ts : Tok) (i : Int) (ti : Tok) (hsz : src.length ≤ 16777216) (h0 : 0 ≤ i) :
    SpecP w 2 123 [.str src ts, .int i ti] (fun t => .int (wordE src i) t) := by
  unfold SpecP
  intro mean mg mb dp un gd cn cs a ccd cl outer A₀ base h₀ L m s news Q E hB9 hF9 hX9 hN9 hT9 hk hd hu hret
  refine wpAny_call ?_
  k_dflt (refine' code_def (binds := [(Str.ofString "source", Value.str src ts), (Str.ofString "at", Value.int i ti)]) ?k1 ?k2 ?k3 ?k4 ?k5 ?kA ?kF ?kK ?k6 ?k7 ?k8 ?k9 ?kB ?_ ?c2 ?c3 ?c4 ?c5; (case kA => exact rfl); (case kF => exact rfl); (case kK => assumption); (case k1 => k_asm); (case k2 => k_asm); (case k3 => k_asm); (case k4 => k_asm); (case k5 => k_asm); (case k6 => k_is); (case k7 => k_is); (case k8 => ktr_room); (case k9 => exact BindsTo.of_eq rfl); (case c5 => decide); (case kB => exact locs rfl); (case c2 => exact rfl); (case c3 => exact rfl); (case c4 => exact rfl); k_whole; intro g' L' h' FG' F' N' B' X' T'; (try dsimp only))
  refine gen_tok ?_
  intro tk0
  refine noE ?_
  refine wpAny_execs_cons ?_
  refine While_int (Str.ofString "at") (fun j => 0 ≤ j ∧ wordE src j = wordE src i) (fun j => src.length - j.toNat) (by assumption) (by assumption) rfl ⟨h0, rfl⟩ ?_ PassesOwn.never
  intro j tj h₁ tk₁ ⟨hj, he⟩ F₁ N₁
  k_steps
  · rename (_ = true) => hc
    simp only [PyProof.Txt.length_slice_le, if_true] at hc
    have hp : worP src j = true := by rw [worP, hc]; rfl
    have := worP_lt hj hp
    exact wi_end (by k_asm) map_twice (by k_asm) ⟨by omega, (endW_step hj this hp).trans he⟩ (by omega)
  · rename (_ = true) => hc
    simp only [PyProof.Txt.length_slice_le, if_true] at hc
    have hp : worP src j = true := by rw [worP, hc, Bool.or_true]
    have := worP_lt hj hp
    exact wi_end (by k_asm) map_twice (by k_asm) ⟨by omega, (endW_step hj this hp).trans he⟩ (by omega)
  · rename (_ = false) => hc1; revert hc1
    rename (_ = false) => hc2; intro hc1
    simp only [PyProof.Txt.length_slice_le, if_true] at hc1 hc2
    have hp : worP src j = false := by rw [worP, hc1, hc2]; rfl
    exact ret_intP hret ((endW_stop hp).symm.trans he) (by k_asm) (by k_asm)
theorem lnsScan20 : True := by
  w_top off
  k_with_none
  k_with "mine pure" => ((case k1 => k_asm); (case k2 => k_asm); (case k3 => k_asm); (case k4 => k_asm); (case k5 => k_asm); (case k6 => first | exact rfl | assumption); (case k7 => ktr_room); (case k8 => ktr_units); intro t9z h9z tk9z F9z N9z; (try dsimp only); (try k_fold))
  k_with "execs cons" => (k_here; (with_reducible show wpAny _ _ _ _ _ (Shared.mk _ _ _ (_ + _) _)); refine gen_tok ?_; intro tk9z)
  k_with "execs nil" => (k_here; (with_reducible show wpAny _ _ _ _ _ (Shared.mk _ _ _ (_ + _) _)); refine gen_tok ?_; intro tk9z)
  k_with "WiPost" => (dsimp only [WiPost])
  k_with "mine bool" => (simp only [isLetter, isHex, leS, *, decide_true, decide_false, Bool.not_true, Bool.not_false, Bool.and_true, Bool.true_and, Bool.and_false, Bool.false_and, Bool.or_true, Bool.true_or, Bool.or_false, Bool.false_or, not_true_eq_false, not_false_eq_true])
  k_with "WgPost" => (dsimp only [WgPost])
  k_with "mine steps" => repeat' (first | (k_unfold; (try dsimp only)) | (k_end; wrow_close) | ((fail_if_success (with_reducible show wpAny _ _ (exec (Stmt.While _ _ _ _) _) _ _ _)); (fail_if_success (with_reducible show wpAny _ _ (exec (Stmt.For _ _ _ _ _) _) _ _ _)); walk1) | (dsimp only; walk1) | (leave1; walk_say "STEP leave1"; try dsimp only) | fail "no step")
  k_with "call ref" => (k_here; (with_reducible show wpAny _ _ (call (Value.ref 67) _) _ _ _); k_dflt ((refine' SpecP.use (is_digit_spec _ _ _) ?k1 ?k2 ?k3 ?k4 ?k5 ?k6 ?k7 ?k8 ?_); k_extra "mine pure"))
  k_with "call ref" => (k_here; (with_reducible show wpAny _ _ (call (Value.ref 60) _) _ _ _); k_dflt ((refine' SpecP.use (is_letter_spec _ _ _) ?k1 ?k2 ?k3 ?k4 ?k5 ?k6 ?k7 ?k8 ?_); k_extra "mine pure"))
  k_with "call ref" => (k_here; (with_reducible show wpAny _ _ (call (Value.ref 74) _) _ _ _); k_dflt ((refine' SpecP.use (is_hex_spec _ _ _) ?k1 ?k2 ?k3 ?k4 ?k5 ?k6 ?k7 ?k8 ?_); k_extra "mine pure"))
  k_with "call ref" => (k_here; (with_reducible show wpAny _ _ (call (Value.ref 123) _) _ _ _); k_dflt ((refine' SpecP.use (word_end_spec _ _ _ _ _ (by with_reducible assumption) (by first | with_reducible assumption | omega)) ?k1 ?k2 ?k3 ?k4 ?k5 ?k6 ?k7 ?k8 ?_); k_extra "mine pure"))
  k_with "call ref" => (k_here; (with_reducible show wpAny _ _ (call (Value.ref 130) _) _ _ _); k_dflt ((refine' SpecP.use (digits_end_spec _ _ _ _ _ (by with_reducible assumption) (by first | with_reducible assumption | omega)) ?k1 ?k2 ?k3 ?k4 ?k5 ?k6 ?k7 ?k8 ?_); k_extra "mine pure"))
  trivial
theorem endW_ge {len : Nat} {p : Int → Bool} : ∀ {i : Int}, i ≤ endW len p i := by
  have key : ∀ (n : Nat) (i : Int), i ≤ scanW p n i := by
    intro n
    induction n with
    | zero => intro i; exact Int.le_refl _
    | succ n ih =>
      intro i
      simp only [scanW]
      split
      · have := ih (i + 1); omega
      · exact Int.le_refl _
  exact fun {i} => key _ i
noncomputable def numberE (src : Str) (i : Int) : Int :=
  if ([Str.ofString "H", Str.ofString "X"].any fun x => x == Txt.slice src (some (hexE src i)) (some (hexE src i + 1))) = true then hexE src i + 1
  else if ((Txt.slice src (some (digitsE src i)) (some (digitsE src i + 1)) != Str.ofString ".") || (Txt.slice src (some (digitsE src i + 1)) (some (digitsE src i + 2)) == Str.ofString ".")) = true then digitsE src i
  else if (Txt.slice src (some (digitsE src (digitsE src i + 1))) (some (digitsE src (digitsE src i + 1) + 1)) != Str.ofString "E") = true then digitsE src (digitsE src i + 1)
  else if ([Str.ofString "+", Str.ofString "-"].any fun x => x == Txt.slice src (some (digitsE src (digitsE src i + 1) + 1)) (some (digitsE src (digitsE src i + 1) + 1 + 1))) = true then
    (if digitsE src (digitsE src (digitsE src i + 1) + 1 + 1) = digitsE src (digitsE src i + 1) + 1 + 1 then digitsE src (digitsE src i + 1) else digitsE src (digitsE src (digitsE src i + 1) + 1 + 1))
  else (if digitsE src (digitsE src (digitsE src i + 1) + 1) = digitsE src (digitsE src i + 1) + 1 then digitsE src (digitsE src i + 1) else digitsE src (digitsE src (digitsE src i + 1) + 1))
theorem number_end_spec (w : World) (src : Str) (ts : Tok) (i : Int) (ti : Tok) (hsz : src.length ≤ 16777216) (h0 : 0 ≤ i) :
    SpecP w 3 137 [.str src ts, .int i ti] (fun t => .int (numberE src i) t) := by
  have hA : 0 ≤ digitsE src i := Int.le_trans h0 endW_ge
  have hB : 0 ≤ digitsE src (digitsE src i + 1) := Int.le_trans (by omega : 0 ≤ digitsE src i + 1) endW_ge
  unfold SpecP
  intro mean mg mb dp un gd cn cs a ccd cl outer A₀ base h₀ L m s news Q E hB9 hF9 hX9 hN9 hT9 hk hd hu hret
  refine wpAny_call ?_
  k_dflt (refine' code_def (binds := [(Str.ofString "source", Value.str src ts), (Str.ofString "at", Value.int i ti)]) ?k1 ?k2 ?k3 ?k4 ?k5 ?kA ?kF ?kK ?k6 ?k7 ?k8 ?k9 ?kB ?_ ?c2 ?c3 ?c4 ?c5; (case kA => exact rfl); (case kF => exact rfl); (case kK => assumption); (case k1 => k_asm); (case k2 => k_asm); (case k3 => k_asm); (case k4 => k_asm); (case k5 => k_asm); (case k6 => k_is); (case k7 => k_is); (case k8 => ktr_room); (case k9 => exact BindsTo.of_eq rfl); (case c5 => decide); (case kB => exact locs rfl); (case c2 => exact rfl); (case c3 => exact rfl); (case c4 => exact rfl); k_whole; intro g' L' h' FG' F' N' B' X' T'; (try dsimp only))
  refine gen_tok ?_
  intro tk0
  refine noE ?_
  k_extra "mine steps"
  refine While_int (Str.ofString "end") (fun j => 0 ≤ j ∧ hexE src j = hexE src i) (fun j => src.length - j.toNat) (by assumption) (by assumption) rfl ⟨h0, rfl⟩ ?_ PassesOwn.never
  intro j tj h₁ tk₁ ⟨hj, he⟩ F₁ N₁
  k_steps
  · rename (_ = true) => hc
    simp only [PyProof.Txt.length_slice_le, if_true] at hc
    have hp : hexP src j = true := hc
    have := hexP_lt hj hp
    exact wi_end (by k_asm) map_twice (by k_asm) ⟨by omega, (endW_step hj this hp).trans he⟩ (by omega)
  all_goals (rename ((ite (Str.length _ ≤ _) (isHex _) false) = false) => hq0)
  all_goals (simp only [PyProof.Txt.length_slice_le, if_true] at hq0)
  all_goals (have hj' : hexE src i = j := he.symm.trans (endW_stop hq0))
  all_goals (refine ret_intP hret ?_ (by k_asm) (by first | k_asm | (refine cb_drop (by assumption) (fun p hp => ?_); repeat (first | exact hp | (refine List.mem_cons_of_mem _ ?_)))))
  all_goals simp only [numberE, hj', *, if_true, if_false, Bool.or_true, Bool.true_or, Bool.or_false, Bool.false_or, Bool.and_true, Bool.true_and, Bool.and_false, Bool.false_and, Bool.not_true, Bool.not_false, Bool.false_eq_true, decide_true, decide_false, ne_eq]
noncomputable def signE (src : Str) (i : Int) : Int :=
  if ([Str.ofString ":=", Str.ofString "<=", Str.ofString ">=", Str.ofString ".."].any fun x => x == Txt.slice src (some i) (some (i + 2))) = true then i + 2
  else if (Builtin.Str.occurrences (Str.ofString "+-*/~&.,;|([{^=#<>:)]}") (Txt.item src i) 0 (Str.ofString "+-*/~&.,;|([{^=#<>:)]}").length 1).isEmpty = true then i else i + 1
theorem sign_end_spec (w : World) (src : Str) (ts : Tok) (i : Int) (ti : Tok) (hsz : src.length ≤ 16777216) (h0 : 0 ≤ i) (hl : i < src.length) :
    SpecP w 3 144 [.str src ts, .int i ti] (fun t => .int (signE src i) t) := by
  unfold SpecP
  intro mean mg mb dp un gd cn cs a ccd cl outer A₀ base h₀ L m s news Q E hB9 hF9 hX9 hN9 hT9 hk hd hu hret
  refine wpAny_call ?_
  k_dflt (refine' code_def (binds := [(Str.ofString "source", Value.str src ts), (Str.ofString "at", Value.int i ti)]) ?k1 ?k2 ?k3 ?k4 ?k5 ?kA ?kF ?kK ?k6 ?k7 ?k8 ?k9 ?kB ?_ ?c2 ?c3 ?c4 ?c5; (case kA => exact rfl); (case kF => exact rfl); (case kK => assumption); (case k1 => k_asm); (case k2 => k_asm); (case k3 => k_asm); (case k4 => k_asm); (case k5 => k_asm); (case k6 => k_is); (case k7 => k_is); (case k8 => ktr_room); (case k9 => exact BindsTo.of_eq rfl); (case c5 => decide); (case kB => exact locs rfl); (case c2 => exact rfl); (case c3 => exact rfl); (case c4 => exact rfl); k_whole; intro g' L' h' FG' F' N' B' X' T'; (try dsimp only))
  refine gen_tok ?_
  intro tk0
  refine noE ?_
  k_steps
  all_goals (refine ret_intP hret ?_ (by k_asm) (by first | k_asm | (refine cb_drop (by assumption) (fun p hp => ?_); repeat (first | exact hp | (refine List.mem_cons_of_mem _ ?_)))))
  all_goals simp only [signE, *, if_true, if_false, Bool.or_true, Bool.true_or, Bool.or_false, Bool.false_or, Bool.and_true, Bool.true_and, Bool.and_false, Bool.false_and, Bool.not_true, Bool.not_false, Bool.false_eq_true, decide_true, decide_false]
noncomputable def gapP (src : Str) (j : Int) : Bool := decide (j < (src.length : Int)) && decide ((((Txt.item src j).cps.getD 0 0 : Nat) : Int) ≤ 32)
noncomputable def gapE (src : Str) (i : Int) : Int := endW src.length (gapP src) i
theorem gap_end_spec (w : World) (src : Str) (ts : Tok) (i : Int) (ti : Tok) (hsz : src.length ≤ 16777216) (h0 : 0 ≤ i) :
    SpecP w 2 102 [.str src ts, .int i ti] (fun t => .int (gapE src i) t) := by
  unfold SpecP
  intro mean mg mb dp un gd cn cs a ccd cl outer A₀ base h₀ L m s news Q E hB9 hF9 hX9 hN9 hT9 hk hd hu hret
  refine wpAny_call ?_
  k_dflt (refine' code_def (binds := [(Str.ofString "source", Value.str src ts), (Str.ofString "at", Value.int i ti)]) ?k1 ?k2 ?k3 ?k4 ?k5 ?kA ?kF ?kK ?k6 ?k7 ?k8 ?k9 ?kB ?_ ?c2 ?c3 ?c4 ?c5; (case kA => exact rfl); (case kF => exact rfl); (case kK => assumption); (case k1 => k_asm); (case k2 => k_asm); (case k3 => k_asm); (case k4 => k_asm); (case k5 => k_asm); (case k6 => k_is); (case k7 => k_is); (case k8 => ktr_room); (case k9 => exact BindsTo.of_eq rfl); (case c5 => decide); (case kB => exact locs rfl); (case c2 => exact rfl); (case c3 => exact rfl); (case c4 => exact rfl); k_whole; intro g' L' h' FG' F' N' B' X' T'; (try dsimp only))
  refine gen_tok ?_
  intro tk0
  refine noE ?_
  refine wpAny_execs_cons ?_
  refine While_int (Str.ofString "at") (fun j => 0 ≤ j ∧ gapE src j = gapE src i) (fun j => src.length - j.toNat) (by assumption) (by assumption) rfl ⟨h0, rfl⟩ ?_ PassesOwn.never
  intro j tj h₁ tk₁ ⟨hj, he⟩ F₁ N₁
  k_steps
  · have hp : gapP src j = true := by simp only [gapP, *, if_true, if_false, Bool.or_true, Bool.true_or, Bool.or_false, Bool.false_or, Bool.and_true, Bool.true_and, Bool.and_false, Bool.false_and, Bool.not_true, Bool.not_false, Bool.false_eq_true, decide_true, decide_false]
    have hl : j < (src.length : Int) := by assumption
    exact wi_end (by k_asm) map_twice (by k_asm) ⟨by omega, (endW_step hj hl hp).trans he⟩ (by omega)
  · have hp : gapP src j = false := by simp only [gapP, *, if_true, if_false, Bool.or_true, Bool.true_or, Bool.or_false, Bool.false_or, Bool.and_true, Bool.true_and, Bool.and_false, Bool.false_and, Bool.not_true, Bool.not_false, Bool.false_eq_true, decide_true, decide_false]
    exact ret_intP hret ((endW_stop hp).symm.trans he) (by k_asm) (by k_asm)
  · have hp : gapP src j = false := by simp only [gapP, *, if_true, if_false, Bool.or_true, Bool.true_or, Bool.or_false, Bool.false_or, Bool.and_true, Bool.true_and, Bool.and_false, Bool.false_and, Bool.not_true, Bool.not_false, Bool.false_eq_true, decide_true, decide_false]
    exact ret_intP hret ((endW_stop hp).symm.trans he) (by k_asm) (by k_asm)
theorem lnsScan30 : True := by
  w_top off
  k_with_none
  k_with "mine pure" => ((case k1 => k_asm); (case k2 => k_asm); (case k3 => k_asm); (case k4 => k_asm); (case k5 => k_asm); (case k6 => first | exact rfl | assumption); (case k7 => ktr_room); (case k8 => ktr_units); intro t9z h9z tk9z F9z N9z; (try dsimp only); (try k_fold))
  k_with "execs cons" => (k_here; (with_reducible show wpAny _ _ _ _ _ (Shared.mk _ _ _ (_ + _) _)); refine gen_tok ?_; intro tk9z)
  k_with "execs nil" => (k_here; (with_reducible show wpAny _ _ _ _ _ (Shared.mk _ _ _ (_ + _) _)); refine gen_tok ?_; intro tk9z)
  k_with "WiPost" => (dsimp only [WiPost])
  k_with "mine bool" => (simp only [isLetter, isHex, leS, *, decide_true, decide_false, Bool.not_true, Bool.not_false, Bool.and_true, Bool.true_and, Bool.and_false, Bool.false_and, Bool.or_true, Bool.true_or, Bool.or_false, Bool.false_or, not_true_eq_false, not_false_eq_true])
  k_with "WgPost" => (dsimp only [WgPost])
  k_with "mine steps" => repeat' (first | (k_unfold; (try dsimp only)) | (k_end; wrow_close) | ((fail_if_success (with_reducible show wpAny _ _ (exec (Stmt.While _ _ _ _) _) _ _ _)); (fail_if_success (with_reducible show wpAny _ _ (exec (Stmt.For _ _ _ _ _) _) _ _ _)); walk1) | (dsimp only; walk1) | (leave1; walk_say "STEP leave1"; try dsimp only) | fail "no step")
  k_with "call ref" => (k_here; (with_reducible show wpAny _ _ (call (Value.ref 67) _) _ _ _); k_dflt ((refine' SpecP.use (is_digit_spec _ _ _) ?k1 ?k2 ?k3 ?k4 ?k5 ?k6 ?k7 ?k8 ?_); k_extra "mine pure"))
  k_with "call ref" => (k_here; (with_reducible show wpAny _ _ (call (Value.ref 60) _) _ _ _); k_dflt ((refine' SpecP.use (is_letter_spec _ _ _) ?k1 ?k2 ?k3 ?k4 ?k5 ?k6 ?k7 ?k8 ?_); k_extra "mine pure"))
  k_with "call ref" => (k_here; (with_reducible show wpAny _ _ (call (Value.ref 74) _) _ _ _); k_dflt ((refine' SpecP.use (is_hex_spec _ _ _) ?k1 ?k2 ?k3 ?k4 ?k5 ?k6 ?k7 ?k8 ?_); k_extra "mine pure"))
  k_with "call ref" => (k_here; (with_reducible show wpAny _ _ (call (Value.ref 123) _) _ _ _); k_dflt ((refine' SpecP.use (word_end_spec _ _ _ _ _ (by with_reducible assumption) (by first | with_reducible assumption | omega)) ?k1 ?k2 ?k3 ?k4 ?k5 ?k6 ?k7 ?k8 ?_); k_extra "mine pure"))
  k_with "call ref" => (k_here; (with_reducible show wpAny _ _ (call (Value.ref 130) _) _ _ _); k_dflt ((refine' SpecP.use (digits_end_spec _ _ _ _ _ (by with_reducible assumption) (by first | with_reducible assumption | omega)) ?k1 ?k2 ?k3 ?k4 ?k5 ?k6 ?k7 ?k8 ?_); k_extra "mine pure"))
  k_with "call ref" => (k_here; (with_reducible show wpAny _ _ (call (Value.ref 102) _) _ _ _); k_dflt ((refine' SpecP.use (gap_end_spec _ _ _ _ _ (by with_reducible assumption) (by first | with_reducible assumption | omega)) ?k1 ?k2 ?k3 ?k4 ?k5 ?k6 ?k7 ?k8 ?_); k_extra "mine pure"))
  k_with "call ref" => (k_here; (with_reducible show wpAny _ _ (call (Value.ref 137) _) _ _ _); k_dflt ((refine' SpecP.use (number_end_spec _ _ _ _ _ (by with_reducible assumption) (by first | with_reducible assumption | omega)) ?k1 ?k2 ?k3 ?k4 ?k5 ?k6 ?k7 ?k8 ?_); k_extra "mine pure"))
  k_with "call ref" => (k_here; (with_reducible show wpAny _ _ (call (Value.ref 144) _) _ _ _); k_dflt ((refine' SpecP.use (sign_end_spec _ _ _ _ _ (by with_reducible assumption) (by first | with_reducible assumption | omega) (by first | with_reducible assumption | omega)) ?k1 ?k2 ?k3 ?k4 ?k5 ?k6 ?k7 ?k8 ?_); k_extra "mine pure"))
  trivial
noncomputable def remS (s : Str) : Nat → Int → Int → Int
  | 0, _, _ => -1
  | n + 1, i, d =>
    if i < (s.length : Int) then
      (if (Txt.slice s (some i) (some (i + 2)) == Str.ofString "(*") = true then remS s n (i + 2) (d + 1)
       else if (Txt.slice s (some i) (some (i + 2)) == Str.ofString "*)") = true then (if d - 1 = 0 then i + 2 else remS s n (i + 2) (d - 1))
       else remS s n (i + 1) d)
    else -1
theorem remS_fuel (s : Str) : ∀ (n n' : Nat) (i d : Int), 0 ≤ i → (s.length : Int) - i < n → (s.length : Int) - i < n' → remS s n i d = remS s n' i d := by
  intro n
  induction n with
  | zero =>
    intro n' i d h0 h1 h2
    cases n' with
    | zero => rfl
    | succ n' =>
      have : ¬ i < (s.length : Int) := by omega
      simp only [remS, if_neg this]
  | succ n ih =>
    intro n' i d h0 h1 h2
    cases n' with
    | zero =>
      have : ¬ i < (s.length : Int) := by omega
      simp only [remS, if_neg this]
    | succ n' =>
      simp only [remS]
      by_cases h : i < (s.length : Int)
      · simp only [if_pos h]
        rw [ih n' (i + 2) (d + 1) (by omega) (by omega) (by omega), ih n' (i + 2) (d - 1) (by omega) (by omega) (by omega), ih n' (i + 1) d (by omega) (by omega) (by omega)]
      · simp only [if_neg h]
noncomputable def remE (s : Str) (i : Int) : Int := remS s (s.length + 1) i 0
theorem remark_end_spec (w : World) (src : Str) (ts : Tok) (i : Int) (ti : Tok) (hsz : src.length ≤ 16777216) (h0 : 0 ≤ i) :
    SpecP w 2 109 [.str src ts, .int i ti] (fun t => .int (remE src i) t) := by
  unfold SpecP
  intro mean mg mb dp un gd cn cs a ccd cl outer A₀ base h₀ L m s news Q E hB9 hF9 hX9 hN9 hT9 hk hd hu hret
  refine wpAny_call ?_
  k_dflt (refine' code_def (binds := [(Str.ofString "source", Value.str src ts), (Str.ofString "at", Value.int i ti)]) ?k1 ?k2 ?k3 ?k4 ?k5 ?kA ?kF ?kK ?k6 ?k7 ?k8 ?k9 ?kB ?_ ?c2 ?c3 ?c4 ?c5; (case kA => exact rfl); (case kF => exact rfl); (case kK => assumption); (case k1 => k_asm); (case k2 => k_asm); (case k3 => k_asm); (case k4 => k_asm); (case k5 => k_asm); (case k6 => k_is); (case k7 => k_is); (case k8 => ktr_room); (case k9 => exact BindsTo.of_eq rfl); (case c5 => decide); (case kB => exact locs rfl); (case c2 => exact rfl); (case c3 => exact rfl); (case c4 => exact rfl); k_whole; intro g' L' h' FG' F' N' B' X' T'; (try dsimp only))
  refine gen_tok ?_
  intro tk0
  refine noE ?_
  k_extra "mine steps"
  refine While_G (σ := Int × Tok × Int × Tok × Option Value)
    (fun c y => if y = Str.ofString "at" then some (.int c.1 c.2.1) else if y = Str.ofString "depth" then some (.int c.2.2.1 c.2.2.2.1) else if y = Str.ofString "pair" then c.2.2.2.2 else if y = Str.ofString "source" then some (.str src ts) else none)
    (fun _ => news) (fun c => 0 ≤ c.1 ∧ remS src (src.length + 1) c.1 c.2.2.1 = remE src i) (fun c => src.length - c.1.toNat) (i, ti, 0, tk0, none) (by assumption) (by assumption) ?_ (fun p hp => hp) ⟨h0, rfl⟩ ?_ PassesOwn.never
  · (funext y; by_cases e0 : y = Str.ofString "at"; (focus (subst e0; rfl)); by_cases e1 : y = Str.ofString "depth"; (focus (subst e1; rfl)); by_cases e2 : y = Str.ofString "pair"; (focus (subst e2; rfl)); by_cases e3 : y = Str.ofString "source"; (focus (subst e3; rfl)); simp only [if_neg e0, beq_eq_false_iff_ne.mpr e0, if_neg e1, beq_eq_false_iff_ne.mpr e1, if_neg e2, beq_eq_false_iff_ne.mpr e2, if_neg e3, beq_eq_false_iff_ne.mpr e3, List.reverse_cons, List.reverse_nil, List.nil_append, List.cons_append, List.lookup_cons, List.lookup_nil])
  rintro ⟨j, tj, d, td, u⟩ h₁ tk₁ ⟨hj, he⟩ F₁ N₁
  dsimp only at hj he F₁ N₁
  have hun : remS src (src.length + 1) j d = (if j < (src.length : Int) then
      (if (Txt.slice src (some j) (some (j + 2)) == Str.ofString "(*") = true then remS src src.length (j + 2) (d + 1)
       else if (Txt.slice src (some j) (some (j + 2)) == Str.ofString "*)") = true then (if d - 1 = 0 then j + 2 else remS src src.length (j + 2) (d - 1))
       else remS src src.length (j + 1) d)
    else -1) := rfl
  k_steps
  · simp only [*, if_true, if_false, Bool.or_true, Bool.true_or, Bool.or_false, Bool.false_or, Bool.and_true, Bool.true_and, Bool.and_false, Bool.false_and, Bool.not_true, Bool.not_false, Bool.false_eq_true, decide_true, decide_false] at hun
    have h1 : j < (src.length : Int) := by assumption
    refine' wg_end (σ := Int × Tok × Int × Tok × Option Value) (_, _, _, _, _) ?F ?e ?N (fun p hp => hp) ?I ?m
    case F => k_asm
    case e => (funext y; by_cases e0 : y = Str.ofString "at"; (focus (subst e0; rfl)); by_cases e1 : y = Str.ofString "depth"; (focus (subst e1; rfl)); by_cases e2 : y = Str.ofString "pair"; (focus (subst e2; rfl)); by_cases e3 : y = Str.ofString "source"; (focus (subst e3; rfl)); simp only [if_neg e0, beq_eq_false_iff_ne.mpr e0, if_neg e1, beq_eq_false_iff_ne.mpr e1, if_neg e2, beq_eq_false_iff_ne.mpr e2, if_neg e3, beq_eq_false_iff_ne.mpr e3, List.reverse_cons, List.reverse_nil, List.nil_append, List.cons_append, List.lookup_cons, List.lookup_nil])
    case N => k_asm
    case I => exact ⟨by dsimp only; omega, by dsimp only; rw [remS_fuel src (src.length + 1) src.length _ _ (by omega) (by omega) (by omega)]; exact hun.symm⟩
    case m => dsimp only; omega
  · simp only [*, if_true, if_false, Bool.or_true, Bool.true_or, Bool.or_false, Bool.false_or, Bool.and_true, Bool.true_and, Bool.and_false, Bool.false_and, Bool.not_true, Bool.not_false, Bool.false_eq_true, decide_true, decide_false] at hun
    refine ret_intP hret ?_ (by k_asm) (by first | k_asm | (refine cb_drop (by assumption) (fun p hp => ?_); repeat (first | exact hp | (refine List.mem_cons_of_mem _ ?_))))
    exact hun.symm
  · simp only [*, if_true, if_false, Bool.or_true, Bool.true_or, Bool.or_false, Bool.false_or, Bool.and_true, Bool.true_and, Bool.and_false, Bool.false_and, Bool.not_true, Bool.not_false, Bool.false_eq_true, decide_true, decide_false, ne_eq] at hun
    have h1 : j < (src.length : Int) := by assumption
    refine' wg_end (σ := Int × Tok × Int × Tok × Option Value) (_, _, _, _, _) ?F ?e ?N (fun p hp => hp) ?I ?m
    case F => k_asm
    case e => (funext y; by_cases e0 : y = Str.ofString "at"; (focus (subst e0; rfl)); by_cases e1 : y = Str.ofString "depth"; (focus (subst e1; rfl)); by_cases e2 : y = Str.ofString "pair"; (focus (subst e2; rfl)); by_cases e3 : y = Str.ofString "source"; (focus (subst e3; rfl)); simp only [if_neg e0, beq_eq_false_iff_ne.mpr e0, if_neg e1, beq_eq_false_iff_ne.mpr e1, if_neg e2, beq_eq_false_iff_ne.mpr e2, if_neg e3, beq_eq_false_iff_ne.mpr e3, List.reverse_cons, List.reverse_nil, List.nil_append, List.cons_append, List.lookup_cons, List.lookup_nil])
    case N => k_asm
    case I => exact ⟨by dsimp only; omega, by dsimp only; rw [remS_fuel src (src.length + 1) src.length _ _ (by omega) (by omega) (by omega)]; exact hun.symm⟩
    case m => dsimp only; omega
  · simp only [*, if_true, if_false, Bool.or_true, Bool.true_or, Bool.or_false, Bool.false_or, Bool.and_true, Bool.true_and, Bool.and_false, Bool.false_and, Bool.not_true, Bool.not_false, Bool.false_eq_true, decide_true, decide_false] at hun
    have h1 : j < (src.length : Int) := by assumption
    refine' wg_end (σ := Int × Tok × Int × Tok × Option Value) (_, _, _, _, _) ?F ?e ?N (fun p hp => hp) ?I ?m
    case F => k_asm
    case e => (funext y; by_cases e0 : y = Str.ofString "at"; (focus (subst e0; rfl)); by_cases e1 : y = Str.ofString "depth"; (focus (subst e1; rfl)); by_cases e2 : y = Str.ofString "pair"; (focus (subst e2; rfl)); by_cases e3 : y = Str.ofString "source"; (focus (subst e3; rfl)); simp only [if_neg e0, beq_eq_false_iff_ne.mpr e0, if_neg e1, beq_eq_false_iff_ne.mpr e1, if_neg e2, beq_eq_false_iff_ne.mpr e2, if_neg e3, beq_eq_false_iff_ne.mpr e3, List.reverse_cons, List.reverse_nil, List.nil_append, List.cons_append, List.lookup_cons, List.lookup_nil])
    case N => k_asm
    case I => exact ⟨by dsimp only; omega, by dsimp only; rw [remS_fuel src (src.length + 1) src.length _ _ (by omega) (by omega) (by omega)]; exact hun.symm⟩
    case m => dsimp only; omega
  · simp only [*, if_true, if_false, Bool.or_true, Bool.true_or, Bool.or_false, Bool.false_or, Bool.and_true, Bool.true_and, Bool.and_false, Bool.false_and, Bool.not_true, Bool.not_false, Bool.false_eq_true, decide_true, decide_false] at hun
    refine ret_intP hret ?_ (by k_asm) (by first | k_asm | (refine cb_drop (by assumption) (fun p hp => ?_); repeat (first | exact hp | (refine List.mem_cons_of_mem _ ?_))))
    exact hun.symm
noncomputable def KW : List Str := [Str.ofString "ARRAY", Str.ofString "BEGIN", Str.ofString "BY", Str.ofString "CASE", Str.ofString "CONST", Str.ofString "DIV", Str.ofString "DO", Str.ofString "ELSE", Str.ofString "ELSIF", Str.ofString "END", Str.ofString "FOR", Str.ofString "IF", Str.ofString "IMPORT", Str.ofString "IN", Str.ofString "IS", Str.ofString "MOD", Str.ofString "MODULE", Str.ofString "NIL", Str.ofString "OF", Str.ofString "OR", Str.ofString "POINTER", Str.ofString "PROCEDURE", Str.ofString "RECORD", Str.ofString "REPEAT", Str.ofString "RETURN", Str.ofString "THEN", Str.ofString "TO", Str.ofString "TYPE", Str.ofString "UNTIL", Str.ofString "VAR", Str.ofString "WHILE"]
abbrev tupOf (vs : List Value) : Obj := { cls := .type "tuple", data := .seq vs.toArray }
theorem keywords_spec (w : World) (news : Led) :
    SpecC w 1 53 [] news (fun v n' => ∃ D vs, v = .ref D ∧ n' = (D, tupOf vs) :: news ∧ StrsAre vs KW ∧ ∀ p ∈ news, p.1 < D) := by
  unfold SpecC
  intro mean mg mb dp un gd cn cs a ccd cl outer A₀ base h₀ L m s Q E hB9 hF9 hX9 hN9 hT9 hk hd hu hret
  refine wpAny_call ?_
  k_dflt (refine' code_def (binds := []) ?k1 ?k2 ?k3 ?k4 ?k5 ?kA ?kF ?kK ?k6 ?k7 ?k8 ?k9 ?kB ?_ ?c2 ?c3 ?c4 ?c5; (case kA => exact rfl); (case kF => exact rfl); (case kK => assumption); (case k1 => k_asm); (case k2 => k_asm); (case k3 => k_asm); (case k4 => k_asm); (case k5 => k_asm); (case k6 => k_is); (case k7 => k_is); (case k8 => ktr_room); (case k9 => exact BindsTo.of_eq rfl); (case c5 => decide); (case kB => exact locs rfl); (case c2 => exact rfl); (case c3 => exact rfl); (case c4 => exact rfl); k_whole; intro g' L' h' FG' F' N' B' X' T'; (try dsimp only))
  refine gen_tok ?_
  intro tk0
  refine noE ?_
  k_steps
  refine hret _ _ _ _ (by k_asm) (by k_asm) ⟨_, _, rfl, rfl, ?_, by assumption⟩
  repeat (first | exact StrsAre.nil | refine StrsAre.cons _ _ ?_)
theorem lnsItem0 : True := by
  w_top off
  k_with_none
  k_with "mine pure" => ((case k1 => k_asm); (case k2 => k_asm); (case k3 => k_asm); (case k4 => k_asm); (case k5 => k_asm); (case k6 => first | exact rfl | assumption); (case k7 => ktr_room); (case k8 => ktr_units); intro t9z h9z tk9z F9z N9z; (try dsimp only); (try k_fold))
  k_with "execs cons" => (k_here; (with_reducible show wpAny _ _ _ _ _ (Shared.mk _ _ _ (_ + _) _)); refine gen_tok ?_; intro tk9z)
  k_with "execs nil" => (k_here; (with_reducible show wpAny _ _ _ _ _ (Shared.mk _ _ _ (_ + _) _)); refine gen_tok ?_; intro tk9z)
  k_with "WiPost" => (dsimp only [WiPost])
  k_with "mine bool" => (simp only [isLetter, isHex, leS, *, decide_true, decide_false, Bool.not_true, Bool.not_false, Bool.and_true, Bool.true_and, Bool.and_false, Bool.false_and, Bool.or_true, Bool.true_or, Bool.or_false, Bool.false_or, not_true_eq_false, not_false_eq_true])
  k_with "WgPost" => (dsimp only [WgPost])
  k_with "mine steps" => repeat' (first | (k_unfold; (try dsimp only)) | (k_end; wrow_close) | ((fail_if_success (with_reducible show wpAny _ _ (exec (Stmt.While _ _ _ _) _) _ _ _)); (fail_if_success (with_reducible show wpAny _ _ (exec (Stmt.For _ _ _ _ _) _) _ _ _)); walk1) | (dsimp only; walk1) | (leave1; walk_say "STEP leave1"; try dsimp only) | fail "no step")
  k_with "call ref" => (k_here; (with_reducible show wpAny _ _ (call (Value.ref 67) _) _ _ _); k_dflt ((refine' SpecP.use (is_digit_spec _ _ _) ?k1 ?k2 ?k3 ?k4 ?k5 ?k6 ?k7 ?k8 ?_); k_extra "mine pure"))
  k_with "call ref" => (k_here; (with_reducible show wpAny _ _ (call (Value.ref 60) _) _ _ _); k_dflt ((refine' SpecP.use (is_letter_spec _ _ _) ?k1 ?k2 ?k3 ?k4 ?k5 ?k6 ?k7 ?k8 ?_); k_extra "mine pure"))
  k_with "call ref" => (k_here; (with_reducible show wpAny _ _ (call (Value.ref 74) _) _ _ _); k_dflt ((refine' SpecP.use (is_hex_spec _ _ _) ?k1 ?k2 ?k3 ?k4 ?k5 ?k6 ?k7 ?k8 ?_); k_extra "mine pure"))
  k_with "call ref" => (k_here; (with_reducible show wpAny _ _ (call (Value.ref 123) _) _ _ _); k_dflt ((refine' SpecP.use (word_end_spec _ _ _ _ _ (by with_reducible assumption) (by first | with_reducible assumption | omega)) ?k1 ?k2 ?k3 ?k4 ?k5 ?k6 ?k7 ?k8 ?_); k_extra "mine pure"))
  k_with "call ref" => (k_here; (with_reducible show wpAny _ _ (call (Value.ref 130) _) _ _ _); k_dflt ((refine' SpecP.use (digits_end_spec _ _ _ _ _ (by with_reducible assumption) (by first | with_reducible assumption | omega)) ?k1 ?k2 ?k3 ?k4 ?k5 ?k6 ?k7 ?k8 ?_); k_extra "mine pure"))
  k_with "call ref" => (k_here; (with_reducible show wpAny _ _ (call (Value.ref 102) _) _ _ _); k_dflt ((refine' SpecP.use (gap_end_spec _ _ _ _ _ (by with_reducible assumption) (by first | with_reducible assumption | omega)) ?k1 ?k2 ?k3 ?k4 ?k5 ?k6 ?k7 ?k8 ?_); k_extra "mine pure"))
  k_with "call ref" => (k_here; (with_reducible show wpAny _ _ (call (Value.ref 137) _) _ _ _); k_dflt ((refine' SpecP.use (number_end_spec _ _ _ _ _ (by with_reducible assumption) (by first | with_reducible assumption | omega)) ?k1 ?k2 ?k3 ?k4 ?k5 ?k6 ?k7 ?k8 ?_); k_extra "mine pure"))
  k_with "call ref" => (k_here; (with_reducible show wpAny _ _ (call (Value.ref 144) _) _ _ _); k_dflt ((refine' SpecP.use (sign_end_spec _ _ _ _ _ (by with_reducible assumption) (by first | with_reducible assumption | omega) (by first | with_reducible assumption | omega)) ?k1 ?k2 ?k3 ?k4 ?k5 ?k6 ?k7 ?k8 ?_); k_extra "mine pure"))
  k_with "call ref" => (k_here; (with_reducible show wpAny _ _ (call (Value.ref 109) _) _ _ _); k_dflt ((refine' SpecP.use (remark_end_spec _ _ _ _ _ (by with_reducible assumption) (by first | with_reducible assumption | omega)) ?k1 ?k2 ?k3 ?k4 ?k5 ?k6 ?k7 ?k8 ?_); k_extra "mine pure"))
  trivial
structure Itm where
  ix : Addr
  dx : Addr
  k0 : Tok
  k1 : Tok
  k2 : Tok
  tk : Tok
  tt : Tok
  tp : Tok
  kind : Str
  text : Str
  place : Int
abbrev itmD (w : World) (t : Itm) : Obj := dictOf [ke w "kind" t.k0 (.str t.kind t.tk), ke w "text" t.k1 (.str t.text t.tt), ke w "place" t.k2 (.int t.place t.tp)] 3
abbrev itmL (w : World) (t : Itm) : Led := [(t.ix, instObj 91 t.dx), (t.dx, itmD w t)]
abbrev ItmRet (w : World) (news : Led) (K T : Str) (v : Value) (n' : Led) : Prop :=
  ∃ t : Itm, v = .ref t.ix ∧ n' = itmL w t ++ news ∧ t.kind = K ∧ t.text = T ∧ (∀ p ∈ news, p.1 < t.dx) ∧ t.dx < t.ix
theorem mk_item_spec (w : World) (K T : Str) (p : Int) (tk tt tp : Tok) (news : Led) :
    SpecC w 3 91 [.str K tk, .str T tt, .int p tp] news (ItmRet w news K T) := by
  unfold SpecC
  intro mean mg mb dp un gd cn cs a ccd cl outer A₀ base h₀ L m s Q E hB9 hF9 hX9 hN9 hT9 hk hd hu hret
  k_dflt (refine' call_cls ?j1 ?j2 ?j3 ?j4 ?j5 ?j6 ?_; (case j1 => k_asm); (case j2 => k_asm); (case j3 => k_asm); (case j4 => k_is); (case j5 => k_is); (case j6 => k_is); k_whole; intro ox od oh oF oN l1 l2; (try k_lt l1); (try k_lt2 l2); (try k_sweep))
  k_dflt (refine' code_def (binds := [(Str.ofString "self", Value.ref ox), (Str.ofString "kind", Value.str K tk), (Str.ofString "text", Value.str T tt), (Str.ofString "place", Value.int p tp)]) ?k1 ?k2 ?k3 ?k4 ?k5 ?kA ?kF ?kK ?k6 ?k7 ?k8 ?k9 ?kB ?_ ?c2 ?c3 ?c4 ?c5; (case kA => exact rfl); (case kF => exact rfl); (case kK => assumption); (case k1 => k_asm); (case k2 => k_asm); (case k3 => k_asm); (case k4 => k_asm); (case k5 => k_asm); (case k6 => k_is); (case k7 => k_is); (case k8 => ktr_room); (case k9 => exact BindsTo.of_eq rfl); (case c5 => decide); (case kB => exact locs rfl); (case c2 => exact rfl); (case c3 => exact rfl); (case c4 => exact rfl); k_whole; intro g' L' h' FG' F' N' B' X' T'; (try dsimp only))
  refine gen_tok ?_
  intro tk0
  refine noE ?_
  k_steps
  exact hret _ _ _ _ (by k_asm) (by k_asm) ⟨⟨ox, od, _, _, _, tk, tt, tp, K, T, p⟩, rfl, rfl, rfl, rfl, l1, l2⟩
theorem lnsItem1 : True := by
  k_with "call ref" => (k_here; (with_reducible show wpAny _ _ (call (Value.ref 91) _) _ _ _); (refine' SpecC.use (mk_item_spec _ _ _ _ _ _ _ _) ?k1 ?k2 ?k3 ?k4 ?k5 ?k6 ?k7 ?k8 ?_); (case k1 => k_asm); (case k2 => k_asm); (case k3 => k_asm); (case k4 => k_asm); (case k5 => k_asm); (case k6 => first | exact rfl | assumption); (case k7 => ktr_room); (case k8 => ktr_units); intro v9z n9z h9z tk9z F9z N9z R9z; obtain ⟨it9z, e9z, e8z, e7z, e6z, l9z, l8z⟩ := R9z; subst e9z e8z; (try dsimp only [List.cons_append, List.nil_append] at N9z); (try dsimp only); (try k_fold))
  trivial
theorem item_gap_spec (w : World) (src : Str) (ts : Tok) (i : Int) (ti : Tok) (D : Addr) (news : Led) (hsz : src.length ≤ 16777216) (h0 : 0 ≤ i) (hlt : i < (src.length : Int))
    (hg : (((Txt.item src i).cps.getD 0 0 : Nat) : Int) ≤ 32) :
    SpecC w 6 158 [.str src ts, .int i ti, .ref D] news (ItmRet w news (Str.ofString "gap") (Txt.slice src (some i) (some (gapE src i)))) := by
  unfold SpecC
  intro mean mg mb dp un gd cn cs a ccd cl outer A₀ base h₀ L m s Q E hB9 hF9 hX9 hN9 hT9 hk hd hu hret
  refine wpAny_call ?_
  k_dflt (refine' code_def (binds := [(Str.ofString "source", Value.str src ts), (Str.ofString "at", Value.int i ti), (Str.ofString "words", Value.ref D)]) ?k1 ?k2 ?k3 ?k4 ?k5 ?kA ?kF ?kK ?k6 ?k7 ?k8 ?k9 ?kB ?_ ?c2 ?c3 ?c4 ?c5; (case kA => exact rfl); (case kF => exact rfl); (case kK => assumption); (case k1 => k_asm); (case k2 => k_asm); (case k3 => k_asm); (case k4 => k_asm); (case k5 => k_asm); (case k6 => k_is); (case k7 => k_is); (case k8 => ktr_room); (case k9 => exact BindsTo.of_eq rfl); (case c5 => decide); (case kB => exact locs rfl); (case c2 => exact rfl); (case c3 => exact rfl); (case c4 => exact rfl); k_whole; intro g' L' h' FG' F' N' B' X' T'; (try dsimp only))
  refine gen_tok ?_
  intro tk0
  refine noE ?_
  k_steps
  exact hret _ _ _ _ (by k_asm) (by k_asm) ⟨_, rfl, rfl, by assumption, by assumption, by assumption, by assumption⟩
theorem item_remark_spec (w : World) (src : Str) (ts : Tok) (i : Int) (ti : Tok) (D : Addr) (news : Led) (hsz : src.length ≤ 16777216) (h0 : 0 ≤ i) (hlt : i < (src.length : Int))
    (hg : ¬ (((Txt.item src i).cps.getD 0 0 : Nat) : Int) ≤ 32) (hr : (Txt.slice src (some i) (some (i + 2)) == Str.ofString "(*") = true) (hx : 0 ≤ remE src i) :
    SpecC w 6 158 [.str src ts, .int i ti, .ref D] news (ItmRet w news (Str.ofString "remark") (Txt.slice src (some i) (some (remE src i)))) := by
  unfold SpecC
  intro mean mg mb dp un gd cn cs a ccd cl outer A₀ base h₀ L m s Q E hB9 hF9 hX9 hN9 hT9 hk hd hu hret
  refine wpAny_call ?_
  k_dflt (refine' code_def (binds := [(Str.ofString "source", Value.str src ts), (Str.ofString "at", Value.int i ti), (Str.ofString "words", Value.ref D)]) ?k1 ?k2 ?k3 ?k4 ?k5 ?kA ?kF ?kK ?k6 ?k7 ?k8 ?k9 ?kB ?_ ?c2 ?c3 ?c4 ?c5; (case kA => exact rfl); (case kF => exact rfl); (case kK => assumption); (case k1 => k_asm); (case k2 => k_asm); (case k3 => k_asm); (case k4 => k_asm); (case k5 => k_asm); (case k6 => k_is); (case k7 => k_is); (case k8 => ktr_room); (case k9 => exact BindsTo.of_eq rfl); (case c5 => decide); (case kB => exact locs rfl); (case c2 => exact rfl); (case c3 => exact rfl); (case c4 => exact rfl); k_whole; intro g' L' h' FG' F' N' B' X' T'; (try dsimp only))
  refine gen_tok ?_
  intro tk0
  refine noE ?_
  k_steps
  exact hret _ _ _ _ (by k_asm) (by k_asm) ⟨_, rfl, rfl, by assumption, by assumption, by assumption, by assumption⟩
theorem lnsItem2 : True := by
  k_with "compareOp In str ref" => (k_here; (with_reducible rename StrsAre _ KW => hk9z); refine in_tuple_strs (News.isTup (by k_asm) (by with_reducible assumption)) hk9z ?_)
  trivial
theorem item_word_spec (w : World) (src : Str) (ts : Tok) (i : Int) (ti : Tok) (D : Addr) (news : Led) (hsz : src.length ≤ 16777216) (h0 : 0 ≤ i) (hlt : i < (src.length : Int)) (kwv : List Value) (hD : (D, tupOf kwv) ∈ news) (hkw : StrsAre kwv KW)
    (hg : ¬ (((Txt.item src i).cps.getD 0 0 : Nat) : Int) ≤ 32) (hr : (Txt.slice src (some i) (some (i + 2)) == Str.ofString "(*") = false) (hw : isLetter (Txt.item src i) = true) :
    SpecC w 6 158 [.str src ts, .int i ti, .ref D] news (ItmRet w news (if (KW.any (fun x => x == Txt.slice src (some i) (some (wordE src i)))) = true then Str.ofString "word" else Str.ofString "name") (Txt.slice src (some i) (some (wordE src i)))) := by
  unfold SpecC
  intro mean mg mb dp un gd cn cs a ccd cl outer A₀ base h₀ L m s Q E hB9 hF9 hX9 hN9 hT9 hk hd hu hret
  refine wpAny_call ?_
  k_dflt (refine' code_def (binds := [(Str.ofString "source", Value.str src ts), (Str.ofString "at", Value.int i ti), (Str.ofString "words", Value.ref D)]) ?k1 ?k2 ?k3 ?k4 ?k5 ?kA ?kF ?kK ?k6 ?k7 ?k8 ?k9 ?kB ?_ ?c2 ?c3 ?c4 ?c5; (case kA => exact rfl); (case kF => exact rfl); (case kK => assumption); (case k1 => k_asm); (case k2 => k_asm); (case k3 => k_asm); (case k4 => k_asm); (case k5 => k_asm); (case k6 => k_is); (case k7 => k_is); (case k8 => ktr_room); (case k9 => exact BindsTo.of_eq rfl); (case c5 => decide); (case kB => exact locs rfl); (case c2 => exact rfl); (case c3 => exact rfl); (case c4 => exact rfl); k_whole; intro g' L' h' FG' F' N' B' X' T'; (try dsimp only))
  refine gen_tok ?_
  intro tk0
  refine noE ?_
  k_steps
  · exact hret _ _ _ _ (by k_asm) (by k_asm) ⟨_, rfl, rfl, by simp only [*, if_true, if_false, Bool.or_true, Bool.true_or, Bool.or_false, Bool.false_or, Bool.and_true, Bool.true_and, Bool.and_false, Bool.false_and, Bool.not_true, Bool.not_false, Bool.false_eq_true, decide_true, decide_false], by assumption, by assumption, by assumption⟩
  · exact hret _ _ _ _ (by k_asm) (by k_asm) ⟨_, rfl, rfl, by simp only [*, if_true, if_false, Bool.or_true, Bool.true_or, Bool.or_false, Bool.false_or, Bool.and_true, Bool.true_and, Bool.and_false, Bool.false_and, Bool.not_true, Bool.not_false, Bool.false_eq_true, decide_true, decide_false], by assumption, by assumption, by assumption⟩
theorem item_number_spec (w : World) (src : Str) (ts : Tok) (i : Int) (ti : Tok) (D : Addr) (news : Led) (hsz : src.length ≤ 16777216) (h0 : 0 ≤ i) (hlt : i < (src.length : Int))
    (hg : ¬ (((Txt.item src i).cps.getD 0 0 : Nat) : Int) ≤ 32) (hr : (Txt.slice src (some i) (some (i + 2)) == Str.ofString "(*") = false) (hw : isLetter (Txt.item src i) = false) (hd1 : isDigit (Txt.item src i) = true) :
    SpecC w 6 158 [.str src ts, .int i ti, .ref D] news (ItmRet w news (Str.ofString "number") (Txt.slice src (some i) (some (numberE src i)))) := by
  unfold SpecC
  intro mean mg mb dp un gd cn cs a ccd cl outer A₀ base h₀ L m s Q E hB9 hF9 hX9 hN9 hT9 hk hd hu hret
  refine wpAny_call ?_
  k_dflt (refine' code_def (binds := [(Str.ofString "source", Value.str src ts), (Str.ofString "at", Value.int i ti), (Str.ofString "words", Value.ref D)]) ?k1 ?k2 ?k3 ?k4 ?k5 ?kA ?kF ?kK ?k6 ?k7 ?k8 ?k9 ?kB ?_ ?c2 ?c3 ?c4 ?c5; (case kA => exact rfl); (case kF => exact rfl); (case kK => assumption); (case k1 => k_asm); (case k2 => k_asm); (case k3 => k_asm); (case k4 => k_asm); (case k5 => k_asm); (case k6 => k_is); (case k7 => k_is); (case k8 => ktr_room); (case k9 => exact BindsTo.of_eq rfl); (case c5 => decide); (case kB => exact locs rfl); (case c2 => exact rfl); (case c3 => exact rfl); (case c4 => exact rfl); k_whole; intro g' L' h' FG' F' N' B' X' T'; (try dsimp only))
  refine gen_tok ?_
  intro tk0
  refine noE ?_
  k_steps
  exact hret _ _ _ _ (by k_asm) (by k_asm) ⟨_, rfl, rfl, by assumption, by assumption, by assumption, by assumption⟩
theorem item_sign_spec (w : World) (src : Str) (ts : Tok) (i : Int) (ti : Tok) (D : Addr) (news : Led) (hsz : src.length ≤ 16777216) (h0 : 0 ≤ i) (hlt : i < (src.length : Int))
    (hg : ¬ (((Txt.item src i).cps.getD 0 0 : Nat) : Int) ≤ 32) (hr : (Txt.slice src (some i) (some (i + 2)) == Str.ofString "(*") = false) (hw : isLetter (Txt.item src i) = false) (hd1 : isDigit (Txt.item src i) = false) (hq : (Txt.item src i == Str.ofString "\"") = false) (hs : i < signE src i) :
    SpecC w 6 158 [.str src ts, .int i ti, .ref D] news (ItmRet w news (Str.ofString "sign") (Txt.slice src (some i) (some (signE src i)))) := by
  unfold SpecC
  intro mean mg mb dp un gd cn cs a ccd cl outer A₀ base h₀ L m s Q E hB9 hF9 hX9 hN9 hT9 hk hd hu hret
  refine wpAny_call ?_
  k_dflt (refine' code_def (binds := [(Str.ofString "source", Value.str src ts), (Str.ofString "at", Value.int i ti), (Str.ofString "words", Value.ref D)]) ?k1 ?k2 ?k3 ?k4 ?k5 ?kA ?kF ?kK ?k6 ?k7 ?k8 ?k9 ?kB ?_ ?c2 ?c3 ?c4 ?c5; (case kA => exact rfl); (case kF => exact rfl); (case kK => assumption); (case k1 => k_asm); (case k2 => k_asm); (case k3 => k_asm); (case k4 => k_asm); (case k5 => k_asm); (case k6 => k_is); (case k7 => k_is); (case k8 => ktr_room); (case k9 => exact BindsTo.of_eq rfl); (case c5 => decide); (case kB => exact locs rfl); (case c2 => exact rfl); (case c3 => exact rfl); (case c4 => exact rfl); k_whole; intro g' L' h' FG' F' N' B' X' T'; (try dsimp only))
  refine gen_tok ?_
  intro tk0
  refine noE ?_
  k_steps
  exact hret _ _ _ _ (by k_asm) (by k_asm) ⟨_, rfl, rfl, by assumption, by assumption, by assumption, by assumption⟩
noncomputable def itemS (src : Str) (i : Int) : Option (Str × Str) :=
  if (((Txt.item src i).cps.getD 0 0 : Nat) : Int) ≤ 32 then some (Str.ofString "gap", Txt.slice src (some i) (some (gapE src i)))
  else if (Txt.slice src (some i) (some (i + 2)) == Str.ofString "(*") = true then (if 0 ≤ remE src i then some (Str.ofString "remark", Txt.slice src (some i) (some (remE src i))) else none)
  else if isLetter (Txt.item src i) = true then some (if (KW.any (fun x => x == Txt.slice src (some i) (some (wordE src i)))) = true then Str.ofString "word" else Str.ofString "name", Txt.slice src (some i) (some (wordE src i)))
  else if isDigit (Txt.item src i) = true then some (Str.ofString "number", Txt.slice src (some i) (some (numberE src i)))
  else if (Txt.item src i == Str.ofString "\"") = true then none
  else if i < signE src i then some (Str.ofString "sign", Txt.slice src (some i) (some (signE src i))) else none
theorem item_at_spec (w : World) (src : Str) (ts : Tok) (i : Int) (ti : Tok) (D : Addr) (news : Led) (kwv : List Value) (K T : Str) (hsz : src.length ≤ 16777216) (h0 : 0 ≤ i) (hlt : i < (src.length : Int))
    (hD : (D, tupOf kwv) ∈ news) (hkw : StrsAre kwv KW) (h : itemS src i = some (K, T)) :
    SpecC w 6 158 [.str src ts, .int i ti, .ref D] news (ItmRet w news K T) := by
  unfold itemS at h
  by_cases c1 : (((Txt.item src i).cps.getD 0 0 : Nat) : Int) ≤ 32
  · rw [if_pos c1] at h
    obtain ⟨rfl, rfl⟩ := Prod.mk.inj (Option.some.inj h)
    exact item_gap_spec w src ts i ti D news hsz h0 hlt c1
  rw [if_neg c1] at h
  by_cases c2 : (Txt.slice src (some i) (some (i + 2)) == Str.ofString "(*") = true
  · rw [if_pos c2] at h
    by_cases c3 : 0 ≤ remE src i
    · rw [if_pos c3] at h
      obtain ⟨rfl, rfl⟩ := Prod.mk.inj (Option.some.inj h)
      exact item_remark_spec w src ts i ti D news hsz h0 hlt c1 c2 c3
    · rw [if_neg c3] at h; cases h
  rw [if_neg c2] at h
  have c2' := Bool.eq_false_iff.mpr c2
  by_cases c3 : isLetter (Txt.item src i) = true
  · rw [if_pos c3] at h
    obtain ⟨rfl, rfl⟩ := Prod.mk.inj (Option.some.inj h)
    exact item_word_spec w src ts i ti D news hsz h0 hlt kwv hD hkw c1 c2' c3
  rw [if_neg c3] at h
  have c3' := Bool.eq_false_iff.mpr c3
  by_cases c4 : isDigit (Txt.item src i) = true
  · rw [if_pos c4] at h
    obtain ⟨rfl, rfl⟩ := Prod.mk.inj (Option.some.inj h)
    exact item_number_spec w src ts i ti D news hsz h0 hlt c1 c2' c3' c4
  rw [if_neg c4] at h
  have c4' := Bool.eq_false_iff.mpr c4
  by_cases c5 : (Txt.item src i == Str.ofString "\"") = true
  · rw [if_pos c5] at h; cases h
  rw [if_neg c5] at h
  have c5' := Bool.eq_false_iff.mpr c5
  by_cases c6 : i < signE src i
  · rw [if_pos c6] at h
    obtain ⟨rfl, rfl⟩ := Prod.mk.inj (Option.some.inj h)
    exact item_sign_spec w src ts i ti D news hsz h0 hlt c1 c2' c3' c4' c5' c6
  · rw [if_neg c6] at h; cases h
section
theorem lnsItems0 : True := by
  w_top off
  k_with_none
  k_with "mine pure" => ((case k1 => k_asm); (case k2 => k_asm); (case k3 => k_asm); (case k4 => k_asm); (case k5 => k_asm); (case k6 => first | exact rfl | assumption); (case k7 => ktr_room); (case k8 => ktr_units); intro t9z h9z tk9z F9z N9z; (try dsimp only); (try k_fold))
  k_with "execs cons" => (k_here; (with_reducible show wpAny _ _ _ _ _ (Shared.mk _ _ _ (_ + _) _)); refine gen_tok ?_; intro tk9z)
  k_with "execs nil" => (k_here; (with_reducible show wpAny _ _ _ _ _ (Shared.mk _ _ _ (_ + _) _)); refine gen_tok ?_; intro tk9z)
  k_with "WiPost" => (dsimp only [WiPost])
  k_with "mine bool" => (simp only [isLetter, isHex, leS, *, decide_true, decide_false, Bool.not_true, Bool.not_false, Bool.and_true, Bool.true_and, Bool.and_false, Bool.false_and, Bool.or_true, Bool.true_or, Bool.or_false, Bool.false_or, not_true_eq_false, not_false_eq_true])
  k_with "WgPost" => (dsimp only [WgPost])
  k_with "mine steps" => repeat' (first | (k_unfold; (try dsimp only)) | (k_end; wrow_close) | ((fail_if_success (with_reducible show wpAny _ _ (exec (Stmt.While _ _ _ _) _) _ _ _)); (fail_if_success (with_reducible show wpAny _ _ (exec (Stmt.For _ _ _ _ _) _) _ _ _)); walk1) | (dsimp only; walk1) | (leave1; walk_say "STEP leave1"; try dsimp only) | fail "no step")
  k_with "call ref" => (k_here; (with_reducible show wpAny _ _ (call (Value.ref 67) _) _ _ _); k_dflt ((refine' SpecP.use (is_digit_spec _ _ _) ?k1 ?k2 ?k3 ?k4 ?k5 ?k6 ?k7 ?k8 ?_); k_extra "mine pure"))
  k_with "call ref" => (k_here; (with_reducible show wpAny _ _ (call (Value.ref 60) _) _ _ _); k_dflt ((refine' SpecP.use (is_letter_spec _ _ _) ?k1 ?k2 ?k3 ?k4 ?k5 ?k6 ?k7 ?k8 ?_); k_extra "mine pure"))
  k_with "call ref" => (k_here; (with_reducible show wpAny _ _ (call (Value.ref 74) _) _ _ _); k_dflt ((refine' SpecP.use (is_hex_spec _ _ _) ?k1 ?k2 ?k3 ?k4 ?k5 ?k6 ?k7 ?k8 ?_); k_extra "mine pure"))
  k_with "call ref" => (k_here; (with_reducible show wpAny _ _ (call (Value.ref 123) _) _ _ _); k_dflt ((refine' SpecP.use (word_end_spec _ _ _ _ _ (by with_reducible assumption) (by first | with_reducible assumption | omega)) ?k1 ?k2 ?k3 ?k4 ?k5 ?k6 ?k7 ?k8 ?_); k_extra "mine pure"))
  k_with "call ref" => (k_here; (with_reducible show wpAny _ _ (call (Value.ref 130) _) _ _ _); k_dflt ((refine' SpecP.use (digits_end_spec _ _ _ _ _ (by with_reducible assumption) (by first | with_reducible assumption | omega)) ?k1 ?k2 ?k3 ?k4 ?k5 ?k6 ?k7 ?k8 ?_); k_extra "mine pure"))
  k_with "call ref" => (k_here; (with_reducible show wpAny _ _ (call (Value.ref 102) _) _ _ _); k_dflt ((refine' SpecP.use (gap_end_spec _ _ _ _ _ (by with_reducible assumption) (by first | with_reducible assumption | omega)) ?k1 ?k2 ?k3 ?k4 ?k5 ?k6 ?k7 ?k8 ?_); k_extra "mine pure"))
  k_with "call ref" => (k_here; (with_reducible show wpAny _ _ (call (Value.ref 137) _) _ _ _); k_dflt ((refine' SpecP.use (number_end_spec _ _ _ _ _ (by with_reducible assumption) (by first | with_reducible assumption | omega)) ?k1 ?k2 ?k3 ?k4 ?k5 ?k6 ?k7 ?k8 ?_); k_extra "mine pure"))
  k_with "call ref" => (k_here; (with_reducible show wpAny _ _ (call (Value.ref 144) _) _ _ _); k_dflt ((refine' SpecP.use (sign_end_spec _ _ _ _ _ (by with_reducible assumption) (by first | with_reducible assumption | omega) (by first | with_reducible assumption | omega)) ?k1 ?k2 ?k3 ?k4 ?k5 ?k6 ?k7 ?k8 ?_); k_extra "mine pure"))
  k_with "call ref" => (k_here; (with_reducible show wpAny _ _ (call (Value.ref 109) _) _ _ _); k_dflt ((refine' SpecP.use (remark_end_spec _ _ _ _ _ (by with_reducible assumption) (by first | with_reducible assumption | omega)) ?k1 ?k2 ?k3 ?k4 ?k5 ?k6 ?k7 ?k8 ?_); k_extra "mine pure"))
  trivial
noncomputable def itemsF (src : Str) : Nat → Int → Option (List (Str × Str))
  | 0, j => if j < (src.length : Int) then none else some []
  | n + 1, j => if j < (src.length : Int) then (match itemS src j with
      | none => none
      | some kt => (itemsF src n (j + kt.2.length)).map (kt :: ·)) else some []
noncomputable def itmsL (w : World) : List Itm → Led
  | [] => []
  | t :: r => (t.ix, instObj 91 t.dx) :: (t.dx, itmD w t) :: itmsL w r
theorem itmsL_app (w : World) : ∀ a b : List Itm, itmsL w (a ++ b) = itmsL w a ++ itmsL w b
  | [], _ => rfl
  | _ :: r, b => by simp only [List.cons_append, itmsL, itmsL_app w r b]
abbrev itKT (t : Itm) : Str × Str := (t.kind, t.text)
abbrev itRef (t : Itm) : Value := .ref t.ix
local macro_rules | `(tactic| k_all) => `(tactic| with_reducible assumption)
theorem lnsItems1 : True := by
  k_with "call builtin:list.append" => (k_here; (with_reducible show wpAny _ _ (call (Value.builtin _) [Value.ref _, _]) _ _ _); k_dflt (refine' append_K ?k1 ?k2 ?k3 ?_ ?z; (case k1 => k_asm); (case k2 => k_asm); (case k3 => k_upd); (case z => (simp only [List.size_toArray, List.length_map, sizeLine_eq]; omega)); k_whole); intro h9z F9z N9z; (try k_sweep))
  k_with "call ref" => (k_here; (with_reducible show wpAny _ _ (call (Value.ref 53) _) _ _ _); (refine' SpecC.use (keywords_spec _ _) ?k1 ?k2 ?k3 ?k4 ?k5 ?k6 ?k7 ?k8 ?_); (case k1 => k_asm); (case k2 => k_asm); (case k3 => k_asm); (case k4 => k_asm); (case k5 => k_asm); (case k6 => first | exact rfl | assumption); (case k7 => ktr_room); (case k8 => ktr_units); intro v9z n9z h9z tk9z F9z N9z R9z; obtain ⟨D, kwv, e9z, e8z, hkw, hD0⟩ := R9z; subst e9z e8z; (try dsimp only); (try k_fold))
  k_with "call ref" => (k_here; (with_reducible show wpAny _ _ (call (Value.ref 158) _) _ _ _); (refine' SpecC.use (item_at_spec _ _ _ _ _ _ _ _ _ _ (by with_reducible assumption) (by with_reducible assumption) (by with_reducible assumption) ?kD (by with_reducible assumption) (by with_reducible assumption)) ?k1 ?k2 ?k3 ?k4 ?k5 ?k6 ?k7 ?k8 ?_); (case k1 => k_asm); (case k2 => k_asm); (case k3 => k_asm); (case k4 => k_asm); (case kD => assumption); (case k5 => k_asm); (case k6 => first | exact rfl | assumption); (case k7 => ktr_room); (case k8 => ktr_units); intro v9z n9z h9z tk9z F9z N9z R9z; obtain ⟨⟨ix, dx, k0, k1, k2, kk, tt, tp, kd9z, tx9z, pl⟩, e9z, e8z, e7z, e6z, l9z, l8z⟩ := R9z; dsimp only at e9z e8z e7z e6z l9z l8z; subst e9z e8z; (replace e7z := e7z.symm); (replace e6z := e6z.symm); subst e7z e6z; (have l7z := ltN (l9z _ (List.Mem.head _))); (replace l8z := ltN l8z); (try dsimp only [List.cons_append, List.nil_append] at N9z); (try dsimp only at l7z); (try dsimp only); (try k_fold))
  trivial
theorem itemS_len {src : Str} {i : Int} {K T : Str} (h : itemS src i = some (K, T)) : T.length ≤ src.length := by
  unfold itemS at h
  have fin : ∀ {k : Str} {l u : Option Int}, some (k, Txt.slice src l u) = some (K, T) → T.length ≤ src.length := by
    intro k l u e
    rw [← (Prod.mk.inj (Option.some.inj e)).2]
    exact PyProof.Txt.length_slice_le _ _ _
  repeat' split at h
  all_goals first | exact fin h | cases h
theorem source_items_spec (w : World) (src : Str) (ts : Tok) (news : Led) (its : List (Str × Str)) (hsz : src.length ≤ 16777216) (hin : itemsF src src.length 0 = some its) :
    SpecC w 8 165 [.str src ts] news (fun v n' => ∃ (l : Addr) (n : Nat) (is : List Itm), v = .ref l ∧ n' = (l, listOf (is.map itRef).toArray n) :: (itmsL w is ++ news) ∧ is.map itKT = its ∧ (∀ p ∈ itmsL w is ++ news, p.1 ≠ l) ∧ ∀ p ∈ news, p.1 < l ∧ ∀ q ∈ itmsL w is, p.1 < q.1) := by
  unfold SpecC
  intro mean mg mb dp un gd cn cs a ccd cl outer A₀ base h₀ L m s Q E hB9 hF9 hX9 hN9 hT9 hk hd hu hret
  refine wpAny_call ?_
  k_dflt (refine' code_def (binds := [(Str.ofString "source", Value.str src ts)]) ?k1 ?k2 ?k3 ?k4 ?k5 ?kA ?kF ?kK ?k6 ?k7 ?k8 ?k9 ?kB ?_ ?c2 ?c3 ?c4 ?c5; (case kA => exact rfl); (case kF => exact rfl); (case kK => assumption); (case k1 => k_asm); (case k2 => k_asm); (case k3 => k_asm); (case k4 => k_asm); (case k5 => k_asm); (case k6 => k_is); (case k7 => k_is); (case k8 => ktr_room); (case k9 => exact BindsTo.of_eq rfl); (case c5 => decide); (case kB => exact locs rfl); (case c2 => exact rfl); (case c3 => exact rfl); (case c4 => exact rfl); k_whole; intro g' L' h' FG' F' N' B' X' T'; (try dsimp only))
  refine gen_tok ?_
  intro tk0
  refine noE ?_
  k_extra "mine steps"
  rename_i h3 tk3 fl h4 hl1 h5 tk5 hh F1 N1
  have hnf : ∀ p ∈ news, p.1 < fl := tb_ltOf hl1.2
  refine While_G (σ := Nat × Int × Tok × List Itm × Nat × Option Value)
    (fun c y => if y = Str.ofString "at" then some (.int c.2.1 c.2.2.1) else if y = Str.ofString "item" then c.2.2.2.2.2 else if y = Str.ofString "found" then some (.ref fl) else if y = Str.ofString "words" then some (.ref D) else if y = Str.ofString "source" then some (.str src ts) else none)
    (fun c => (fl, listOf (c.2.2.2.1.map itRef).toArray c.2.2.2.2.1) :: (itmsL w c.2.2.2.1 ++ ((D, tupOf kwv) :: news)))
    (fun c => 0 ≤ c.2.1 ∧ ∃ rest, itemsF src c.1 c.2.1 = some rest ∧ c.2.2.2.1.map itKT ++ rest = its ∧ (∀ q ∈ itmsL w c.2.2.2.1, fl < q.1) ∧ c.2.2.2.1.length + c.1 ≤ src.length)
    (fun c => c.1) (src.length, 0, tk5, [], 0, none) F1 N1 ?_ (fun p hp => hp) ⟨Int.le_refl _, its, hin, rfl, (fun q hq => nomatch hq), by simp⟩ ?_ PassesOwn.never
  · (funext y; by_cases e0 : y = Str.ofString "at"; (focus (subst e0; rfl)); by_cases e1 : y = Str.ofString "item"; (focus (subst e1; rfl)); by_cases e2 : y = Str.ofString "found"; (focus (subst e2; rfl)); by_cases e3 : y = Str.ofString "words"; (focus (subst e3; rfl)); by_cases e4 : y = Str.ofString "source"; (focus (subst e4; rfl)); simp only [if_neg e0, beq_eq_false_iff_ne.mpr e0, if_neg e1, beq_eq_false_iff_ne.mpr e1, if_neg e2, beq_eq_false_iff_ne.mpr e2, if_neg e3, beq_eq_false_iff_ne.mpr e3, if_neg e4, beq_eq_false_iff_ne.mpr e4, List.reverse_cons, List.reverse_nil, List.nil_append, List.cons_append, List.lookup_cons, List.lookup_nil])
  rintro ⟨n, j, tj, is, ep, u⟩ h₁ tk₁ ⟨hj, rest, hF, hR, hlo, hln⟩ F₁ N₁
  dsimp only at hj hF hR hlo hln F₁ N₁
  have hoff : ∀ p ∈ itmsL w is ++ (D, tupOf kwv) :: news, p.1 ≠ fl := by
    intro p hp
    rcases List.mem_append.mp hp with hp | hp
    · exact Nat.ne_of_gt (hlo p hp)
    · rcases List.mem_cons.mp hp with rfl | hp
      · exact Nat.ne_of_lt hl1.1
      · exact Nat.ne_of_lt (hnf p hp)
  have hDm : (D, tupOf kwv) ∈ (fl, listOf (is.map itRef).toArray ep) :: (itmsL w is ++ (D, tupOf kwv) :: news) := List.mem_cons_of_mem _ (List.mem_append_right _ (List.mem_cons_self ..))
  by_cases hjl : j < (src.length : Int)
  · obtain ⟨n, rfl⟩ : ∃ k, n = k + 1 := by
      cases n with
      | zero => simp only [itemsF, if_pos hjl] at hF; cases hF
      | succ k => exact ⟨k, rfl⟩
    simp only [itemsF, if_pos hjl] at hF
    cases hS : itemS src j with
    | none => rw [hS] at hF; cases hF
    | some kt =>
      obtain ⟨K, T⟩ := kt
      rw [hS] at hF
      obtain ⟨rest', hF', rfl⟩ := Option.map_eq_some_iff.mp hF
      dsimp only at hF'
      have hTl : T.length ≤ src.length := itemS_len hS
      k_steps
      rename_i F2 N2
      refine' wg_end (σ := Nat × Int × Tok × List Itm × Nat × Option Value) (n, j + (T.length : Int), _, is ++ [⟨ix, dx, k0, k1, k2, kk, tt, tp, K, T, pl⟩], ep + 1, _) F2 ?e N2 ?n ?I ?m
      case e => (funext y; by_cases e0 : y = Str.ofString "at"; (focus (subst e0; rfl)); by_cases e1 : y = Str.ofString "item"; (focus (subst e1; rfl)); by_cases e2 : y = Str.ofString "found"; (focus (subst e2; rfl)); by_cases e3 : y = Str.ofString "words"; (focus (subst e3; rfl)); by_cases e4 : y = Str.ofString "source"; (focus (subst e4; rfl)); simp only [if_neg e0, beq_eq_false_iff_ne.mpr e0, if_neg e1, beq_eq_false_iff_ne.mpr e1, if_neg e2, beq_eq_false_iff_ne.mpr e2, if_neg e3, beq_eq_false_iff_ne.mpr e3, if_neg e4, beq_eq_false_iff_ne.mpr e4, List.reverse_cons, List.reverse_nil, List.nil_append, List.cons_append, List.lookup_cons, List.lookup_nil])
      case n =>
        intro p hp
        have e1 : ((is ++ [(⟨ix, dx, k0, k1, k2, kk, tt, tp, K, T, pl⟩ : Itm)]).map itRef).toArray = (is.map itRef).toArray.push (Value.ref ix) := by simp
        dsimp only at hp
        rw [e1, itmsL_app] at hp
        rcases List.mem_cons.mp hp with rfl | hp
        · exact List.mem_cons_of_mem _ (List.mem_cons_of_mem _ (List.mem_cons_self ..))
        · rcases List.mem_append.mp hp with hp | hp
          · rcases List.mem_append.mp hp with hp | hp
            · exact List.mem_cons_of_mem _ (List.mem_cons_of_mem _ (List.mem_cons_of_mem _ (List.mem_append_left _ hp)))
            · rcases List.mem_cons.mp hp with rfl | hp
              · exact List.mem_cons_self ..
              · rcases List.mem_cons.mp hp with rfl | hp
                · exact List.mem_cons_of_mem _ (List.mem_cons_self ..)
                · exact nomatch hp
          · exact List.mem_cons_of_mem _ (List.mem_cons_of_mem _ (List.mem_cons_of_mem _ (List.mem_append_right _ hp)))
      case I =>
        refine ⟨by dsimp only; omega, rest', hF', ?_, ?_, ?_⟩
        · dsimp only
          rw [List.map_append, List.append_assoc]
          exact hR
        · intro q hq
          dsimp only at hq
          rw [itmsL_app] at hq
          rcases List.mem_append.mp hq with hq | hq
          · exact hlo q hq
          · rcases List.mem_cons.mp hq with rfl | hq
            · exact Nat.lt_trans l7z l8z
            · rcases List.mem_cons.mp hq with rfl | hq
              · exact l7z
              · exact nomatch hq
        · dsimp only
          rw [List.length_append, List.length_singleton]
          omega
      case m => exact Nat.lt_succ_self _
  · have hr0 : rest = [] := by
      cases n with
      | zero => simp only [itemsF, if_neg hjl] at hF; exact (Option.some.inj hF).symm
      | succ k => simp only [itemsF, if_neg hjl] at hF; exact (Option.some.inj hF).symm
    subst hr0
    rw [List.append_nil] at hR
    k_steps
    refine hret _ _ _ _ (by k_asm) (cb_drop (by with_reducible assumption) ?_) ⟨fl, ep, is, rfl, rfl, hR, ?_, ?_⟩
    · intro p hp
      rcases List.mem_cons.mp hp with rfl | hp
      · exact List.mem_cons_self ..
      · refine List.mem_cons_of_mem _ ?_
        rcases List.mem_append.mp hp with hp | hp
        · exact List.mem_append_left _ hp
        · exact List.mem_append_right _ (List.mem_cons_of_mem _ hp)
    · intro p hp
      rcases List.mem_append.mp hp with hp | hp
      · exact hoff p (List.mem_append_left _ hp)
      · exact hoff p (List.mem_append_right _ (List.mem_cons_of_mem _ hp))
    · intro p hp
      exact ⟨hnf p hp, fun q hq => Nat.lt_trans (hnf p hp) (hlo q hq)⟩
end
theorem lenSp : (Str.ofString " ").length = 1 := by decide +kernel
theorem lenEm : (Str.ofString "").length = 0 := by decide +kernel
structure Blk where
  word : Str
  base : Int
  body : Bool
  sect : Str
  label : Bool
structure FS where
  rows : List Str
  pieces : List Str
  before : Option (Str × Str)
  depth : Int
  top : Blk
  low : List Blk
  ob : Int
  arr : Int
  nam : Bool
  hea : Bool
  fie : Bool
  bop : Bool
  una : Bool
  sta : Bool
  bro : Bool
  arm : Bool
structure RawB where
  b : Addr
  d : Addr
  kb : Nat → Tok
  tw : Tok
  tb : Tok
  ts : Tok
abbrev blkO (w : World) (kb : Nat → Tok) (wo : Str) (tw : Tok) (bas : Int) (tb : Tok) (bod : Bool) (sec : Str) (ts : Tok) (lab : Bool) : Obj := dictOf
  [ke w "word" (kb 0) (.str wo tw), ke w "base" (kb 1) (.int bas tb), ke w "body" (kb 2) (.bool bod), ke w "section" (kb 3) (.str sec ts), ke w "label" (kb 4) (.bool lab)] 5
noncomputable def lowL (w : World) : List RawB → List Blk → Led
  | r :: rs, b :: bs => (r.b, instObj 182 r.d) :: (r.d, blkO w r.kb b.word r.tw b.base r.tb b.body b.sect r.ts b.label) :: lowL w rs bs
  | _, _ => []
abbrev fmtO (w : World) (kt : Nat → Tok) (ra pa ba : Addr) (bef : Value) (dep : Int) (td : Tok) (ob : Int) (to : Tok) (arr : Int) (ta : Tok) (nam hea fie bop una sta bro arm : Bool) : Obj := dictOf
  [ke w "rows" (kt 0) (.ref ra), ke w "pieces" (kt 1) (.ref pa), ke w "before" (kt 2) bef, ke w "depth" (kt 3) (.int dep td),
   ke w "blocks" (kt 4) (.ref ba), ke w "open_brackets" (kt 5) (.int ob to), ke w "arrays" (kt 6) (.int arr ta),
   ke w "naming" (kt 7) (.bool nam), ke w "heading" (kt 8) (.bool hea), ke w "fields" (kt 9) (.bool fie), ke w "base_open" (kt 10) (.bool bop),
   ke w "unary" (kt 11) (.bool una), ke w "starred" (kt 12) (.bool sta), ke w "broken" (kt 13) (.bool bro), ke w "after_remark" (kt 14) (.bool arm)] 15
abbrev lowRefs (bl : List RawB) : List Value := (bl.map fun b => Value.ref b.b).reverse
structure Dis7 (x dx ra pa ba bx bd : Nat) (rst : Led) : Prop where
  n1 : x ≠ dx
  n2 : x ≠ ra
  n3 : x ≠ pa
  n4 : x ≠ ba
  n5 : x ≠ bx
  n6 : x ≠ bd
  n7 : dx ≠ ra
  n8 : dx ≠ pa
  n9 : dx ≠ ba
  n10 : dx ≠ bx
  n11 : dx ≠ bd
  n12 : ra ≠ pa
  n13 : ra ≠ ba
  n14 : ra ≠ bx
  n15 : ra ≠ bd
  n16 : pa ≠ ba
  n17 : pa ≠ bx
  n18 : pa ≠ bd
  n19 : ba ≠ bx
  n20 : ba ≠ bd
  n21 : bx ≠ bd
  a1 : ∀ p ∈ rst, p.1 ≠ x
  a2 : ∀ p ∈ rst, p.1 ≠ dx
  a3 : ∀ p ∈ rst, p.1 ≠ ra
  a4 : ∀ p ∈ rst, p.1 ≠ pa
  a5 : ∀ p ∈ rst, p.1 ≠ ba
  a6 : ∀ p ∈ rst, p.1 ≠ bx
  a7 : ∀ p ∈ rst, p.1 ≠ bd
structure LowOk (w : World) (bl : List RawB) (bs : List Blk) (rest : Led) : Prop where
  len : bl.length = bs.length
  nod : ((lowL w bl bs).map (·.1)).Nodup
  off : ∀ p ∈ rest, p.1 ∉ (lowL w bl bs).map (·.1)
/-- the item before, as it lies in the ledger's tail -/
noncomputable def BefAt (w : World) (rest : Led) (v : Value) : Option (Str × Str) → Prop
  | none => v = .none
  | some (k, t) => ∃ it : Itm, v = .ref it.ix ∧ (it.ix, instObj 91 it.dx) ∈ rest ∧ (it.dx, itmD w it) ∈ rest ∧ it.kind = k ∧ it.text = t
inductive FmtAt (w : World) (x : Addr) (rest : Led) (S : FS) (n' : Led) : Prop
  | mk (dx ra pa ba bx bd : Addr) (kt kb : Nat → Tok) (ar ap : Array Value) (nr np nb : Nat) (bef : Value) (td to ta tw tb ts : Tok) (bl : List RawB)
    (e : n' = (x, instObj 357 dx) :: (dx, fmtO w kt ra pa ba bef S.depth td S.ob to S.arr ta S.nam S.hea S.fie S.bop S.una S.sta S.bro S.arm) ::
      (ra, listOf ar nr) :: (pa, listOf ap np) :: (ba, listOf (lowRefs bl ++ [Value.ref bx]).toArray nb) :: (bx, instObj 182 bd) ::
      (bd, blkO w kb S.top.word tw S.top.base tb S.top.body S.top.sect ts S.top.label) :: (lowL w bl S.low ++ rest))
    (hr : StrsAre ar.toList S.rows) (hp : StrsAre ap.toList S.pieces) (hb : BefAt w rest bef S.before) (hl : LowOk w bl S.low rest) (hd : Dis7 x dx ra pa ba bx bd (lowL w bl S.low ++ rest)) : FmtAt w x rest S n'
theorem FmtAt.intro {w : World} {x : Addr} {rest : Led} {rows pieces : List Str} {before : Option (Str × Str)} {dep : Int} {wo : Str} {bas : Int} {bod : Bool} {sec : Str} {lab : Bool} {bs : List Blk} {ob arr : Int} {nam hea fie bop una sta bro arm : Bool}
    {dx ra pa ba bx bd : Addr} {kt kb : Nat → Tok} {ar ap : Array Value} {nr np nb : Nat} {bef : Value} {td to ta tw tb ts : Tok} {bl : List RawB}
    (hr : StrsAre ar.toList rows) (hp : StrsAre ap.toList pieces) (hb : BefAt w rest bef before) (hl : LowOk w bl bs rest) (hd : Dis7 x dx ra pa ba bx bd (lowL w bl bs ++ rest)) :
    FmtAt w x rest ⟨rows, pieces, before, dep, ⟨wo, bas, bod, sec, lab⟩, bs, ob, arr, nam, hea, fie, bop, una, sta, bro, arm⟩
      ((x, instObj 357 dx) :: (dx, fmtO w kt ra pa ba bef dep td ob to arr ta nam hea fie bop una sta bro arm) ::
      (ra, listOf ar nr) :: (pa, listOf ap np) :: (ba, listOf (lowRefs bl ++ [Value.ref bx]).toArray nb) :: (bx, instObj 182 bd) ::
      (bd, blkO w kb wo tw bas tb bod sec ts lab) :: (lowL w bl bs ++ rest)) :=
  ⟨dx, ra, pa, ba, bx, bd, kt, kb, ar, ap, nr, np, nb, bef, td, to, ta, tw, tb, ts, bl, rfl, hr, hp, hb, hl, hd⟩
structure Fit (S : FS) : Prop where
  f1 : S.rows.length ≤ 1000
  f2 : S.pieces.length ≤ 1000
  f3 : (S.pieces.map (·.length)).sum + S.pieces.length * (Str.ofString "").length ≤ 16777216
  f6 : (Txt.join (Str.ofString "") S.pieces).length ≤ 100000
  f4 : 0 ≤ S.depth
  f5 : S.depth ≤ 100
theorem strs_size {a : Array Value} {l : List Str} (h : StrsAre a.toList l) : a.size = l.length := by
  have : ∀ {vs : List Value} {ys : List Str}, StrsAre vs ys → vs.length = ys.length := by
    intro vs ys h
    induction h with
    | nil => rfl
    | cons _ _ _ ih => simp [ih]
  simpa using this h
theorem strs_push {a : Array Value} {l : List Str} (h : StrsAre a.toList l) (y : Str) (t : Tok) : StrsAre (a.push (.str y t)).toList (l ++ [y]) := by
  rw [Array.toList_push]
  exact kct_snoc h
theorem strs_nil : StrsAre (#[] : Array Value).toList [] := StrsAre.nil
theorem news_mv3 {h₀ h : Heap} {L : Addr} {n a b c d : Addr × Obj} {r : Led} (N : News h₀ L h (n :: a :: b :: c :: d :: r)) : News h₀ L h (a :: b :: c :: n :: r) := by
  intro p hp
  apply N
  rcases List.mem_cons.mp hp with rfl | hp
  · exact .tail _ (.head _)
  rcases List.mem_cons.mp hp with rfl | hp
  · exact .tail _ (.tail _ (.head _))
  rcases List.mem_cons.mp hp with rfl | hp
  · exact .tail _ (.tail _ (.tail _ (.head _)))
  rcases List.mem_cons.mp hp with rfl | hp
  · exact .head _
  · exact .tail _ (.tail _ (.tail _ (.tail _ (.tail _ hp))))
noncomputable def rowText (S : FS) : Str := Txt.mul (Str.ofString " ") (2 * S.depth) ++ Txt.join (Str.ofString "") S.pieces
noncomputable def endRowF (S : FS) : FS :=
  { S with rows := if S.pieces = [] then S.rows else S.rows ++ [rowText S], pieces := [], arm := if S.pieces = [] then S.arm else false, bro := false, before := none, una := false, sta := false }
section
variable {x dx ra pa ba bx bd : Addr} {o1 o2 o3 o4 o5 o6 o7 o' : Obj} {rst : Led}
theorem upd_dx (h : Dis7 x dx ra pa ba bx bd rst) : Upd dx o2 o' ((x, o1) :: (dx, o2) :: (ra, o3) :: (pa, o4) :: (ba, o5) :: (bx, o6) :: (bd, o7) :: rst) ((x, o1) :: (dx, o') :: (ra, o3) :: (pa, o4) :: (ba, o5) :: (bx, o6) :: (bd, o7) :: rst) := by
  refine .tail h.n1 (.head fun p hp => ?_)
  rcases List.mem_cons.mp hp with rfl | hp
  · exact h.n7.symm
  rcases List.mem_cons.mp hp with rfl | hp
  · exact h.n8.symm
  rcases List.mem_cons.mp hp with rfl | hp
  · exact h.n9.symm
  rcases List.mem_cons.mp hp with rfl | hp
  · exact h.n10.symm
  rcases List.mem_cons.mp hp with rfl | hp
  · exact h.n11.symm
  · exact h.a2 p hp
theorem upd_ra (h : Dis7 x dx ra pa ba bx bd rst) : Upd ra o3 o' ((x, o1) :: (dx, o2) :: (ra, o3) :: (pa, o4) :: (ba, o5) :: (bx, o6) :: (bd, o7) :: rst) ((x, o1) :: (dx, o2) :: (ra, o') :: (pa, o4) :: (ba, o5) :: (bx, o6) :: (bd, o7) :: rst) := by
  refine .tail h.n2 (.tail h.n7 (.head fun p hp => ?_))
  rcases List.mem_cons.mp hp with rfl | hp
  · exact h.n12.symm
  rcases List.mem_cons.mp hp with rfl | hp
  · exact h.n13.symm
  rcases List.mem_cons.mp hp with rfl | hp
  · exact h.n14.symm
  rcases List.mem_cons.mp hp with rfl | hp
  · exact h.n15.symm
  · exact h.a3 p hp
theorem upd_pa (h : Dis7 x dx ra pa ba bx bd rst) : Upd pa o4 o' ((x, o1) :: (dx, o2) :: (ra, o3) :: (pa, o4) :: (ba, o5) :: (bx, o6) :: (bd, o7) :: rst) ((x, o1) :: (dx, o2) :: (ra, o3) :: (pa, o') :: (ba, o5) :: (bx, o6) :: (bd, o7) :: rst) := by
  refine .tail h.n3 (.tail h.n8 (.tail h.n12 (.head fun p hp => ?_)))
  rcases List.mem_cons.mp hp with rfl | hp
  · exact h.n16.symm
  rcases List.mem_cons.mp hp with rfl | hp
  · exact h.n17.symm
  rcases List.mem_cons.mp hp with rfl | hp
  · exact h.n18.symm
  · exact h.a4 p hp
theorem upd_ba (h : Dis7 x dx ra pa ba bx bd rst) : Upd ba o5 o' ((x, o1) :: (dx, o2) :: (ra, o3) :: (pa, o4) :: (ba, o5) :: (bx, o6) :: (bd, o7) :: rst) ((x, o1) :: (dx, o2) :: (ra, o3) :: (pa, o4) :: (ba, o') :: (bx, o6) :: (bd, o7) :: rst) := by
  refine .tail h.n4 (.tail h.n9 (.tail h.n13 (.tail h.n16 (.head fun p hp => ?_))))
  rcases List.mem_cons.mp hp with rfl | hp
  · exact h.n19.symm
  rcases List.mem_cons.mp hp with rfl | hp
  · exact h.n20.symm
  · exact h.a5 p hp
theorem upd_bd (h : Dis7 x dx ra pa ba bx bd rst) : Upd bd o7 o' ((x, o1) :: (dx, o2) :: (ra, o3) :: (pa, o4) :: (ba, o5) :: (bx, o6) :: (bd, o7) :: rst) ((x, o1) :: (dx, o2) :: (ra, o3) :: (pa, o4) :: (ba, o5) :: (bx, o6) :: (bd, o') :: rst) := by
  refine .tail h.n6 (.tail h.n11 (.tail h.n15 (.tail h.n18 (.tail h.n20 (.tail h.n21 (.head fun p hp => ?_))))))
  exact h.a7 p hp
end
/-- the address of the block on top -/
noncomputable def topA (n : Led) : Option Addr := (n[5]?).map (·.1)
theorem news_tup {h₀ h : Heap} {L D : Addr} {a : Array Value} {l : Led} (N : News h₀ L h ((D, { cls := .type "tuple", data := .seq a }) :: l)) : News h₀ L h l := fun p hp => N p (.tail _ hp)
theorem news_tl {h₀ h : Heap} {L : Addr} {q : Addr × Obj} {l : Led} (N : News h₀ L h (q :: l)) : News h₀ L h l := fun p hp => N p (.tail _ hp)
section
variable {prog : Program} {w : World} {A : Around} {E : Value → Shared → Prop} {s : Shared} {env : Env} {h₀ : Heap} {x : Str} {body : List Stmt} {Q : Flow → Shared → Prop}
/-- a loop over a list of the ledger's, by its invariant; the ledger may grow and change beside the list -/
theorem iter_R {l : Addr} {vs : List Value} {nn : Nat} {m₀ : Str → Option Value} {news : Led} (J : Nat → (Str → Option Value) → Led → Prop)
    (hh : A.handled = none) (F : Fr h₀ env.locals s.heap m₀) (N : News h₀ env.locals s.heap news) (hl : (l, listOf vs.toArray nn) ∈ news) (hJl : ∀ i m nx, J i m nx → (l, listOf vs.toArray nn) ∈ nx) (hj : J 0 m₀ news)
    (turn : ∀ i v m₁ news₁ h tk own, vs[i]? = some v → (∀ p ∈ own, p.2.cls = .type "list_iterator") → OwnOff own (news₁.map (·.1)) → J i m₁ news₁ → Fr h₀ env.locals h (fun y => if y = x then some v else m₁ y) → News h₀ env.locals h (news₁ ++ own) →
      wpAny (model prog w) A (execs body env) (InvPostG h₀ env.locals (J (i + 1)) own { s with heap := h, toks := tk } Q) E { s with heap := h, toks := tk })
    (done : ∀ m₁ news₁ h tk, J vs.length m₁ news₁ → Fr h₀ env.locals h m₁ → News h₀ env.locals h news₁ → Q .next { s with heap := h, toks := tk }) :
    wpAny (model prog w) A (pyIter (.ref l)) (fun it s₂ => LoopAtV prog w A h₀ env x body Q E it s₂) E s := by
  have hol : s.heap.get? l = some (listOf vs.toArray nn) := (N _ hl).1
  have hls : s.heap.IsList l vs.toArray := ⟨_, hol, rfl, nn, rfl⟩
  have hne : l ≠ s.heap.objs.size := Nat.ne_of_lt (Heap.lt_size hol)
  refine wpAny_pyIter_list hls ?_
  have W := Walks.list (prog := prog) (w := w) hh s.heap.objs.size l hne vs.toArray
  have hlen : vs.toArray.size = vs.length := by simp
  rw [hlen] at W
  refine ⟨_, _, _, vs.length, _, _, m₀, news, J, rfl, W, ?_, ?_, ?_, ⟨⟨_, Heap.get?_push_size _ rfl, rfl, rfl⟩, hls.at fun o e => Heap.get?_push_of_some _ e⟩, F.push _, (fun p hp => ⟨Heap.get?_push_of_some _ (N p hp).1, (N p hp).2⟩), hj, ?_, ?_⟩
  · intro hm
    rcases List.mem_cons.mp hm with e | hm
    · exact absurd F.ns.lt (e ▸ Nat.lt_irrefl _)
    · exact (N _ hl).2.1 ((List.mem_singleton.mp hm).symm)
  · intro b hb
    rw [List.mem_singleton.mp hb]
    exact next_is_new F
  · intro p hp hI
    exact absurd (Heap.lt_size (N p hp).1) ((List.mem_singleton.mp hI) ▸ Nat.lt_irrefl _)
  · rintro i v m₁ news₁ s₁ own ⟨hh', tk', rfl⟩ hin hP hJ hoff hown hget hfp hst F₁ N₁
    have hI0 : h₀.get? s.heap.objs.size = none := next_is_new F
    obtain ⟨⟨oI, hoI, _⟩, _⟩ := id hst
    have hIown : (s.heap.objs.size, oI) ∈ own := hfp _ (List.mem_cons.mpr (.inl rfl)) hI0 _ hoI
    have hIf : (s.heap.objs.size, oI) ∈ own.filter fun p => decide (p.1 = s.heap.objs.size) := List.mem_filter.mpr ⟨hIown, by simp⟩
    have hsep : OwnOff (own.filter fun p => decide (p.1 = s.heap.objs.size)) (news₁.map (·.1)) := by
      intro p hp b hb e
      obtain ⟨q, hq, rfl⟩ := List.mem_map.mp hb
      have h1 : p.1 = s.heap.objs.size := by simpa using (List.mem_filter.mp hp).2
      exact hoff q hq (List.mem_singleton.mpr (e ▸ h1))
    have hv : vs[i]? = some v := by simpa using hP
    have N₂ : News h₀ env.locals hh' (news₁ ++ own.filter fun p => decide (p.1 = s.heap.objs.size)) := fun p hp => N₁ p ((List.mem_append.mp hp).elim (fun h => List.mem_append.mpr (.inr h)) fun h => List.mem_append.mpr (.inl ((List.mem_filter.mp h).1)))
    have hcls : ∀ p ∈ own.filter (fun p => decide (p.1 = s.heap.objs.size)), p.2.cls = .type "list_iterator" := by
      intro p hp
      obtain ⟨hp1, hp2⟩ := List.mem_filter.mp hp
      have h1 : p.1 = s.heap.objs.size := by simpa using hp2
      obtain ⟨o, ho, hc, _⟩ := hst.1
      have h2 := hget p hp1
      have ho : hh'.get? s.heap.objs.size = some o := ho
      have h2 : hh'.get? p.1 = some p.2 := h2
      rw [h1, ho] at h2
      rw [← Option.some.inj h2]
      exact hc
    have hlo : hh'.get? l = some (listOf vs.toArray nn) := (N₁ _ (List.mem_append.mpr (.inr (hJl _ _ _ hJ)))).1
    refine wpAny_mono (turn i v m₁ news₁ hh' tk' _ hv hcls hsep hJ F₁ N₂) (fun f s₂ p => ?_) fun _ _ e => e
    have fin : InvEndG h₀ env.locals (J (i + 1)) (own.filter fun p => decide (p.1 = s.heap.objs.size)) { s with heap := hh', toks := tk' } s₂ → LoopStepU h₀ env.locals [s.heap.objs.size] own (J (i + 1)) { s with heap := hh', toks := tk' } .next s₂ := by
      rintro ⟨h', tk, m', news', nx, e, F', N', hn, ho, ha, hm⟩
      refine ⟨rfl, h', tk, m', nx, e, F', fun p hp => ?_, fun p hp hq => ?_, hm⟩
      · rcases List.mem_append.mp hp with h | h
        · by_cases hI : p.1 = s.heap.objs.size
          · exact N' p (ho p (List.mem_filter.mpr ⟨h, by simpa using hI⟩))
          · have h1 : p.1 = l := by
              rcases List.mem_cons.mp (hown p h) with h2 | h2
              · exact absurd h2 hI
              · exact List.mem_singleton.mp h2
            have h2 : hh'.get? p.1 = some p.2 := hget p h
            rw [h1, hlo] at h2
            have h3 : p = (l, listOf vs.toArray nn) := Prod.ext h1 (Option.some.inj h2).symm
            rw [h3]
            exact N' _ (hn _ (hJl _ _ _ hm))
        · exact N' p (hn p h)
      · exact ha _ hIf p.1 (List.mem_map.mpr ⟨p, hp, rfl⟩) (List.mem_singleton.mp hq).symm
    cases f with
    | ret v => exact .ret p
    | brk => exact .brk p
    | next => exact .next (fin p)
    | cont => exact .cont (fin p)
  · rintro h' tk m' news' F' N' _ hJ
    exact done m' news' h' tk hJ F' N'
end
open LCg
section
variable {prog : Program} {w : World} {A : Around} {h₀ : Heap} {L : Addr} {m : Str → Option Value} {env : Env} {ct elt : Expr} {x : Str} {scope : Scope} {cl : List (Str × Addr)} {s : Shared} {S : Led → Prop} {Fin : List Value → Led → Prop} {news : Led}
theorem cmpT_rest {α : Type} {xs : List α} {vs : List Value} (R : Value → α → Prop) (p : α → Bool) (g : α → Str) (hR : ∀ (i : Nat) (v : Value), vs[i]? = some v → ∃ a, xs[i]? = some a ∧ R v a) (hlen : vs.length = xs.length) (hS : S news)
    (turn : ∀ a v I oI C oC D m₂ ys h tk (E' : Value → Shared → Prop), a ∈ xs → R v a → LCg.NsObj oC m₂ → m₂ x = some v → Fr h₀ L h m → News h₀ L h ((I, oI) :: (C, oC) :: (D, LCg.lst ys) :: news) → LCg.Off3 I C D news → ((@Ne Nat I C) ∧ (@Ne Nat I D) ∧ (@Ne Nat C D)) →
      wpAny (model prog w) A (isTrue ct (compEnvC scope cl C env) (eval ct (compEnvC scope cl C env))) (fun ok s' => ∃ h' tk', s' = { s with heap := h', toks := tk' } ∧ Fr h₀ L h' m ∧ News h₀ L h' ((I, oI) :: (C, oC) :: (D, LCg.lst ys) :: news) ∧ ok = p a ∧
        (ok = true → wpAny (model prog w) A (eval elt (compEnvC scope cl C env)) (fun y s'' => ∃ h'' tk'' t, s'' = { s with heap := h'', toks := tk'' } ∧ Fr h₀ L h'' m ∧ News h₀ L h'' ((I, oI) :: (C, oC) :: (D, LCg.lst ys) :: news) ∧ y = .str (g a) t) E' s')) E' { s with heap := h, toks := tk })
    (fin : ∀ ys, StrsAre ys ((xs.filter p).map g) → Fin ys news) : LCt.CompRestT prog w A h₀ L m env ct elt x scope cl s S (fun i v => vs.toArray[i]? = some v) Fin vs.toArray.size 0 [] news := by
  have hn : vs.toArray.size = xs.length := by simp [hlen]
  rw [hn]
  have key : ∀ (j i : Nat) (ys : List Value), i + j = xs.length → StrsAre ys (((xs.take i).filter p).map g) → LCt.CompRestT prog w A h₀ L m env ct elt x scope cl s S (fun i v => vs.toArray[i]? = some v) Fin j i ys news := by
    intro j
    induction j with
    | zero =>
      intro i ys hi hy
      have e : i = xs.length := by omega
      subst e
      rw [List.take_length] at hy
      exact LCt.CompRestT.zero (fin ys hy)
    | succ j ih =>
      intro i ys hi hy
      refine LCt.CompRestT.succ ?_
      intro v I oI C oC D m₂ h tk E' hv hC hx F N off ne
      obtain ⟨a, ha, hRa⟩ := hR i v (by simpa using hv)
      refine wpAny_mono (turn a v I oI C oC D m₂ ys h tk E' (List.mem_of_getElem? ha) hRa hC hx F N off ne) (fun ok s' hq => ?_) fun _ _ e => e
      obtain ⟨h', tk', rfl, F', N', hok, hel⟩ := hq
      by_cases hp : ok = true
      · rw [if_pos hp]
        have hpa : p a = true := by rw [← hok]; exact hp
        refine wpAny_mono (hel hp) (fun y s'' hq => ?_) fun _ _ e => e
        obtain ⟨h'', tk'', t, rfl, F'', N'', rfl⟩ := hq
        refine ⟨h'', tk'', news, rfl, F'', N'', off, hS, ih (i + 1) _ (by omega) ?_⟩
        rw [List.take_add_one, ha]
        rw [List.filter_append]
        have : List.filter p (Option.toList (some a)) = [a] := List.filter_cons_of_pos hpa
        rw [this, List.map_append]
        exact kct_snoc hy
      · rw [if_neg hp]
        have hpa : p a = false := by rw [← hok]; exact Bool.eq_false_iff.mpr hp
        refine ⟨h', tk', news, rfl, F', N', off, hS, ih (i + 1) _ (by omega) ?_⟩
        rw [List.take_add_one, ha]
        rw [List.filter_append]
        have : List.filter p (Option.toList (some a)) = [] := List.filter_cons_of_neg (by rw [hpa]; decide)
        rw [this, List.append_nil]
        exact hy
  exact key _ 0 [] (by omega) (by simp only [List.take_zero, List.filter_nil, List.map_nil]; exact .nil)
theorem cmp_rest {α : Type} {xs : List α} {vs : List Value} (R : Value → α → Prop) (g : α → Str) (hR : ∀ (i : Nat) (v : Value), vs[i]? = some v → ∃ a, xs[i]? = some a ∧ R v a) (hlen : vs.length = xs.length) (hS : S news)
    (turn : ∀ a v I oI C oC D m₂ ys h tk (E' : Value → Shared → Prop), a ∈ xs → R v a → LCg.NsObj oC m₂ → m₂ x = some v → Fr h₀ L h m → News h₀ L h ((I, oI) :: (C, oC) :: (D, LCg.lst ys) :: news) → LCg.Off3 I C D news → ((@Ne Nat I C) ∧ (@Ne Nat I D) ∧ (@Ne Nat C D)) →
      wpAny (model prog w) A (eval elt (compEnvC scope cl C env)) (fun y s'' => ∃ h'' tk'' t, s'' = { s with heap := h'', toks := tk'' } ∧ Fr h₀ L h'' m ∧ News h₀ L h'' ((I, oI) :: (C, oC) :: (D, LCg.lst ys) :: news) ∧ y = .str (g a) t) E' { s with heap := h, toks := tk })
    (fin : ∀ ys, StrsAre ys (xs.map g) → Fin ys news) : LCg.CompRest prog w A h₀ L m env elt x scope cl s S (fun i v => vs.toArray[i]? = some v) Fin vs.toArray.size 0 [] news := by
  have hn : vs.toArray.size = xs.length := by simp [hlen]
  rw [hn]
  have key : ∀ (j i : Nat) (ys : List Value), i + j = xs.length → StrsAre ys ((xs.take i).map g) → LCg.CompRest prog w A h₀ L m env elt x scope cl s S (fun i v => vs.toArray[i]? = some v) Fin j i ys news := by
    intro j
    induction j with
    | zero =>
      intro i ys hi hy
      have e : i = xs.length := by omega
      subst e
      rw [List.take_length] at hy
      exact LCg.CompRest.zero (fin ys hy)
    | succ j ih =>
      intro i ys hi hy
      refine LCg.CompRest.succ ?_
      intro v I oI C oC D m₂ h tk E' hv hC hx F N off ne
      obtain ⟨a, ha, hRa⟩ := hR i v (by simpa using hv)
      refine wpAny_mono (turn a v I oI C oC D m₂ ys h tk E' (List.mem_of_getElem? ha) hRa hC hx F N off ne) (fun y s' hq => ?_) fun _ _ e => e
      obtain ⟨h'', tk'', t, rfl, F'', N'', rfl⟩ := hq
      refine ⟨h'', tk'', news, rfl, F'', N'', off, hS, ih (i + 1) _ (by omega) ?_⟩
      rw [List.take_add_one, ha, List.map_append]
      exact kct_snoc hy
  exact key _ 0 [] (by omega) (by simp only [List.take_zero, List.map_nil]; exact .nil)
end
section
theorem lnsNew0 : True := by
  w_top off
  k_with_none
  k_with "mine pure" => ((case k1 => k_asm); (case k2 => k_asm); (case k3 => k_asm); (case k4 => k_asm); (case k5 => k_asm); (case k6 => first | exact rfl | assumption); (case k7 => ktr_room); (case k8 => ktr_units); intro t9z h9z tk9z F9z N9z; (try dsimp only); (try k_fold))
  k_with "execs cons" => (k_here; (with_reducible show wpAny _ _ _ _ _ (Shared.mk _ _ _ (_ + _) _)); refine gen_tok ?_; intro tk9z)
  k_with "execs nil" => (k_here; (with_reducible show wpAny _ _ _ _ _ (Shared.mk _ _ _ (_ + _) _)); refine gen_tok ?_; intro tk9z)
  k_with "WiPost" => (dsimp only [WiPost])
  k_with "mine bool" => (simp only [isLetter, isHex, leS, *, decide_true, decide_false, Bool.not_true, Bool.not_false, Bool.and_true, Bool.true_and, Bool.and_false, Bool.false_and, Bool.or_true, Bool.true_or, Bool.or_false, Bool.false_or, not_true_eq_false, not_false_eq_true])
  k_with "WgPost" => (dsimp only [WgPost])
  k_with "mine steps" => repeat' (first | (k_unfold; (try dsimp only)) | (k_end; wrow_close) | ((fail_if_success (with_reducible show wpAny _ _ (exec (Stmt.While _ _ _ _) _) _ _ _)); (fail_if_success (with_reducible show wpAny _ _ (exec (Stmt.For _ _ _ _ _) _) _ _ _)); walk1) | (dsimp only; walk1) | (leave1; walk_say "STEP leave1"; try dsimp only) | fail "no step")
  k_with "call ref" => (k_here; (with_reducible show wpAny _ _ (call (Value.ref 67) _) _ _ _); k_dflt ((refine' SpecP.use (is_digit_spec _ _ _) ?k1 ?k2 ?k3 ?k4 ?k5 ?k6 ?k7 ?k8 ?_); k_extra "mine pure"))
  k_with "call ref" => (k_here; (with_reducible show wpAny _ _ (call (Value.ref 60) _) _ _ _); k_dflt ((refine' SpecP.use (is_letter_spec _ _ _) ?k1 ?k2 ?k3 ?k4 ?k5 ?k6 ?k7 ?k8 ?_); k_extra "mine pure"))
  k_with "call ref" => (k_here; (with_reducible show wpAny _ _ (call (Value.ref 74) _) _ _ _); k_dflt ((refine' SpecP.use (is_hex_spec _ _ _) ?k1 ?k2 ?k3 ?k4 ?k5 ?k6 ?k7 ?k8 ?_); k_extra "mine pure"))
  k_with "call ref" => (k_here; (with_reducible show wpAny _ _ (call (Value.ref 123) _) _ _ _); k_dflt ((refine' SpecP.use (word_end_spec _ _ _ _ _ (by with_reducible assumption) (by first | with_reducible assumption | omega)) ?k1 ?k2 ?k3 ?k4 ?k5 ?k6 ?k7 ?k8 ?_); k_extra "mine pure"))
  k_with "call ref" => (k_here; (with_reducible show wpAny _ _ (call (Value.ref 130) _) _ _ _); k_dflt ((refine' SpecP.use (digits_end_spec _ _ _ _ _ (by with_reducible assumption) (by first | with_reducible assumption | omega)) ?k1 ?k2 ?k3 ?k4 ?k5 ?k6 ?k7 ?k8 ?_); k_extra "mine pure"))
  k_with "call ref" => (k_here; (with_reducible show wpAny _ _ (call (Value.ref 102) _) _ _ _); k_dflt ((refine' SpecP.use (gap_end_spec _ _ _ _ _ (by with_reducible assumption) (by first | with_reducible assumption | omega)) ?k1 ?k2 ?k3 ?k4 ?k5 ?k6 ?k7 ?k8 ?_); k_extra "mine pure"))
  k_with "call ref" => (k_here; (with_reducible show wpAny _ _ (call (Value.ref 137) _) _ _ _); k_dflt ((refine' SpecP.use (number_end_spec _ _ _ _ _ (by with_reducible assumption) (by first | with_reducible assumption | omega)) ?k1 ?k2 ?k3 ?k4 ?k5 ?k6 ?k7 ?k8 ?_); k_extra "mine pure"))
  k_with "call ref" => (k_here; (with_reducible show wpAny _ _ (call (Value.ref 144) _) _ _ _); k_dflt ((refine' SpecP.use (sign_end_spec _ _ _ _ _ (by with_reducible assumption) (by first | with_reducible assumption | omega) (by first | with_reducible assumption | omega)) ?k1 ?k2 ?k3 ?k4 ?k5 ?k6 ?k7 ?k8 ?_); k_extra "mine pure"))
  k_with "call ref" => (k_here; (with_reducible show wpAny _ _ (call (Value.ref 109) _) _ _ _); k_dflt ((refine' SpecP.use (remark_end_spec _ _ _ _ _ (by with_reducible assumption) (by first | with_reducible assumption | omega)) ?k1 ?k2 ?k3 ?k4 ?k5 ?k6 ?k7 ?k8 ?_); k_extra "mine pure"))
  trivial
abbrev tk5 (a b c d e : Tok) : Nat → Tok := fun i => match i with | 0 => a | 1 => b | 2 => c | 3 => d | _ => e
abbrev tk15 (a0 a1 a2 a3 a4 a5 a6 a7 a8 a9 a10 a11 a12 a13 a14 : Tok) : Nat → Tok := fun i => match i with | 0 => a0 | 1 => a1 | 2 => a2 | 3 => a3 | 4 => a4 | 5 => a5 | 6 => a6 | 7 => a7 | 8 => a8 | 9 => a9 | 10 => a10 | 11 => a11 | 12 => a12 | 13 => a13 | _ => a14
theorem mk_block_spec (w : World) (wo : Str) (b : Int) (tw tb : Tok) (news : Led) :
    SpecC w 3 182 [.str wo tw, .int b tb] news (fun v n' => ∃ (bx bd : Addr) (kb : Nat → Tok) (ts : Tok), v = .ref bx ∧ n' = (bx, instObj 182 bd) :: (bd, blkO w kb wo tw b tb false (Str.ofString "") ts false) :: news ∧ (∀ p ∈ news, p.1 < bd) ∧ bd < bx) := by
  unfold SpecC
  intro mean mg mb dp un gd cn cs a ccd cl outer A₀ base h₀ L m s Q E hB9 hF9 hX9 hN9 hT9 hk hd hu hret
  k_dflt (refine' call_cls ?j1 ?j2 ?j3 ?j4 ?j5 ?j6 ?_; (case j1 => k_asm); (case j2 => k_asm); (case j3 => k_asm); (case j4 => k_is); (case j5 => k_is); (case j6 => k_is); k_whole; intro ox od oh oF oN l1 l2; (try k_lt l1); (try k_lt2 l2); (try k_sweep))
  k_dflt (refine' code_def (binds := [(Str.ofString "self", Value.ref ox), (Str.ofString "word", Value.str wo tw), (Str.ofString "base", Value.int b tb)]) ?k1 ?k2 ?k3 ?k4 ?k5 ?kA ?kF ?kK ?k6 ?k7 ?k8 ?k9 ?kB ?_ ?c2 ?c3 ?c4 ?c5; (case kA => exact rfl); (case kF => exact rfl); (case kK => assumption); (case k1 => k_asm); (case k2 => k_asm); (case k3 => k_asm); (case k4 => k_asm); (case k5 => k_asm); (case k6 => k_is); (case k7 => k_is); (case k8 => ktr_room); (case k9 => exact BindsTo.of_eq rfl); (case c5 => decide); (case kB => exact locs rfl); (case c2 => exact rfl); (case c3 => exact rfl); (case c4 => exact rfl); k_whole; intro g' L' h' FG' F' N' B' X' T'; (try dsimp only))
  refine gen_tok ?_
  intro tk0
  refine noE ?_
  k_steps
  refine' hret _ _ _ _ ?zF ?zN ⟨ox, od, tk5 ?a0 ?a1 ?a2 ?a3 ?a4, ?ts, rfl, rfl, ?z1, ?z2⟩
  case zF => k_asm
  case zN => k_dflt assumption
  case z1 => assumption
  case z2 => assumption
theorem und_units (A : Around) (v : Value) : (A.under (Code.builtin "type.__call__" { pos := [v] })).units = A.units + 1 := rfl
local macro_rules | `(tactic| ktr_units) => `(tactic| ((have hcL9 := cLine_is); (try simp only [units_in1, units_deeper, Around.mark_units, units_caller, und_units] at *); (try dsimp only [ktrTop] at *); omega))
theorem lnsNew1 : True := by
  k_with "call ref" => (k_here; (with_reducible show wpAny _ _ (call (Value.ref 182) _) _ _ _); k_dflt ((refine' SpecC.use (mk_block_spec _ _ _ _ _ _) ?k1 ?k2 ?k3 ?k4 ?k5 ?k6 ?k7 ?k8 ?_); (case k1 => k_asm); (case k2 => k_asm); (case k3 => k_asm); (case k4 => k_asm); (case k5 => k_asm); (case k6 => first | exact rfl | assumption); (case k7 => ktr_room); (case k8 => ktr_units); intro v9z n9z h9z tk9z F9z N9z R9z; obtain ⟨bx9z, bd9z, kb9z, ts9z, e9z, e8z, l9z, l8z⟩ := R9z; subst e9z e8z; (have l7z := ltN (l9z _ (List.Mem.head _))); (replace l8z := ltN l8z); (try dsimp only [List.cons_append, List.nil_append] at N9z); (try dsimp only at l7z); (try dsimp only); (try k_fold)))
  trivial
theorem news_pm {h₀ h : Heap} {L : Addr} {x dx ra pa ba bx bd : Addr × Obj} {l : Led} (N : News h₀ L h (ba :: bx :: bd :: pa :: ra :: x :: dx :: l)) : News h₀ L h (x :: dx :: ra :: pa :: ba :: bx :: bd :: l) := by
  intro p hp
  apply N
  simp only [List.mem_cons] at hp ⊢
  rcases hp with h | h | h | h | h | h | h | h <;> simp [h]
noncomputable def fs0 : FS := ⟨[], [], none, 0, ⟨Str.ofString "", 0, false, Str.ofString "", false⟩, [], 0, 0, false, false, false, false, false, false, false, false⟩
theorem formatter_spec (w : World) (news : Led) :
    SpecC w 8 357 [] news (fun v n' => ∃ x, v = .ref x ∧ FmtAt w x news fs0 n' ∧ ∀ p ∈ news, p.1 < x) := by
  unfold SpecC
  intro mean mg mb dp un gd cn cs a ccd cl outer A₀ base h₀ L m s Q E hB9 hF9 hX9 hN9 hT9 hk hd hu hret
  k_dflt (refine' call_cls ?j1 ?j2 ?j3 ?j4 ?j5 ?j6 ?_; (case j1 => k_asm); (case j2 => k_asm); (case j3 => k_asm); (case j4 => k_is); (case j5 => k_is); (case j6 => k_is); k_whole; intro ox od oh oF oN l1 l2; (try k_lt l1); (try k_lt2 l2); (try k_sweep))
  k_dflt (refine' code_def (binds := [(Str.ofString "self", Value.ref ox)]) ?k1 ?k2 ?k3 ?k4 ?k5 ?kA ?kF ?kK ?k6 ?k7 ?k8 ?k9 ?kB ?_ ?c2 ?c3 ?c4 ?c5; (case kA => exact rfl); (case kF => exact rfl); (case kK => assumption); (case k1 => k_asm); (case k2 => k_asm); (case k3 => k_asm); (case k4 => k_asm); (case k5 => k_asm); (case k6 => k_is); (case k7 => k_is); (case k8 => ktr_room); (case k9 => exact BindsTo.of_eq rfl); (case c5 => decide); (case kB => exact locs rfl); (case c2 => exact rfl); (case c3 => exact rfl); (case c4 => exact rfl); k_whole; intro g' L' h' FG' F' N' B' X' T'; (try dsimp only))
  refine gen_tok ?_
  intro tk0
  refine noE ?_
  k_steps
  obtain ⟨r1, r2, _⟩ := ‹ox < _ ∧ od < _ ∧ AllLt _ news›
  obtain ⟨p1, p2, p3, _⟩ := ‹_ < _ ∧ ox < _ ∧ od < _ ∧ AllLt _ news›
  obtain ⟨b1, b2, b3, b4, b5, b6, _⟩ := ‹_ < _ ∧ _ < _ ∧ _ < _ ∧ _ < _ ∧ ox < _ ∧ od < _ ∧ AllLt _ news›
  replace r1 := ltN r1
  replace r2 := ltN r2
  replace p1 := ltN p1
  replace p2 := ltN p2
  replace p3 := ltN p3
  replace b1 := ltN b1
  replace b2 := ltN b2
  replace b3 := ltN b3
  replace b4 := ltN b4
  replace b5 := ltN b5
  replace b6 := ltN b6
  have o2 := ltN l2
  have hn : ∀ p ∈ news, (p.1 : Nat) < od := fun p hp => ltN (l1 p hp)
  refine' hret _ _ _ _ ?zF ?zN ⟨ox, rfl, FmtAt.intro (kt := tk15 _ _ _ _ _ _ _ _ _ _ _ _ _ _ _) (bl := []) ?zr ?zp ?zb ?zl ?zd, ?zo⟩
  case zF => k_asm
  case zN => k_dflt exact news_pm (by assumption)
  case zr => exact .nil
  case zp => exact .nil
  case zb => exact rfl
  case zl => exact ⟨rfl, List.nodup_nil, fun p hp hq => nomatch hq⟩
  case zd => (constructor <;> first | omega | exact (fun p hp => Nat.ne_of_lt (hn p hp)) | exact (fun p hp => Nat.ne_of_lt (Nat.lt_trans (hn p hp) (by assumption))) | exact (fun p hp => Nat.ne_of_lt (Nat.lt_trans (hn p hp) (by omega))))
  case zo => exact fun p hp => Nat.lt_trans (hn p hp) o2
end
noncomputable def SpecL (w : World) (lv : Nat) (f : Addr) (vs : List Value) (l : Addr) (ls : List Value) (R : Tok → Value) : Prop :=
  ∀ (mean : ExcName → Option Value) (mg mb : Str → Option Value) (dp un : Nat) (gd : Option (List Code)) (cn : Str) (cs : Scope) (a : Addr) (ccd : Value) (cl : List (Str × Addr)) (outer : List Env) (A₀ : Around) (base h₀ : Heap) (L : Addr) (m : Str → Option Value) (s : Shared) (news : Led) (Q E : Value → Shared → Prop),
    Below A₀ base outer h₀ → Fr h₀ L s.heap m → (hd.heap_1 w.params).In h₀ → News h₀ L s.heap news → Top viewQ (looseW viewQ []) mean mg mb h₀ → cs.kind = .function → dp + lv < recursionLimit → un + 8 * lv < cLine → h₀.IsList l ls.toArray →
    (∀ t h' tk', Fr h₀ L h' m → News h₀ L h' news → Q (R t) { s with heap := h', toks := tk' }) →
    wpAny (model PySem.Challenge.pw_pq0761_01 w) (ktrTop dp un gd cn cs L a ccd cl outer) (call (.ref f) vs) Q E s
section
variable {w : World} {lv : Nat} {f : Addr} {vs ls : List Value} {l : Addr} {R : Tok → Value} {mean : ExcName → Option Value} {mg mb : Str → Option Value} {dp un : Nat} {gd : Option (List Code)} {cn : Str} {cs : Scope} {a : Addr} {ccd : Value} {cl : List (Str × Addr)} {outer : List Env} {A₀ : Around} {base h₀ : Heap} {L : Addr} {m : Str → Option Value} {s : Shared} {news : Led} {Q E : Value → Shared → Prop}
theorem SpecL.use (C : SpecL w lv f vs l ls R) (hls : h₀.IsList l ls.toArray) (B : Below A₀ base outer h₀) (F : Fr h₀ L s.heap m) (X : (hd.heap_1 w.params).In h₀) (N : News h₀ L s.heap news) (T : Top viewQ (looseW viewQ []) mean mg mb h₀) (hk : cs.kind = .function) (hd : dp + lv < recursionLimit) (hu : un + 8 * lv < cLine)
    (ret : ∀ t h' tk', Fr h₀ L h' m → News h₀ L h' news → Q (R t) { s with heap := h', toks := tk' }) :
    wpAny (model PySem.Challenge.pw_pq0761_01 w) (ktrTop dp un gd cn cs L a ccd cl outer) (call (.ref f) vs) Q E s := C _ _ _ _ _ _ _ _ _ _ _ _ _ _ _ _ _ _ _ _ _ B F X N T hk hd hu hls ret
end
noncomputable def partI (ns : List Int) (i ways : Int) : Int := if i < (ns.length : Int) then (if ns.getD i.toNat 0 < 0 then -ns.getD i.toNat 0 else ns.getD i.toNat 0).fmod ways else 0
theorem partI_lo (ns : List Int) (i : Int) {ways : Int} (h : 0 < ways) : 0 ≤ partI ns i ways := by
  unfold partI
  split
  · exact Int.fmod_nonneg_of_pos _ h
  · exact Int.le_refl _
theorem partI_hi (ns : List Int) (i : Int) {ways : Int} (h : 0 < ways) : partI ns i ways < ways := by
  unfold partI
  split
  · exact Int.fmod_lt_of_pos _ h
  · exact h
theorem lpart_spec (w : World) (l : Addr) (ls : List Value) (ns : List Int) (hi : IntsAre ls ns) (hlen : ns.length ≤ 63) (i ways : Int) (ti tw : Tok) (h0 : 0 ≤ i) (hw : 0 < ways) (hi9 : i ≤ 1000) :
    SpecL w 1 373 [.ref l, .int i ti, .int ways tw] l ls (fun t => .int (partI ns i ways) t) := by
  unfold SpecL
  intro mean mg mb dp un gd cn cs a ccd cl outer A₀ base h₀ L m s news Q E hB9 hF9 hX9 hN9 hT9 hk hd hu hls hret
  refine wpAny_call ?_
  k_dflt (refine' code_def (binds := [(Str.ofString "script", Value.ref l), (Str.ofString "spot", Value.int i ti), (Str.ofString "ways", Value.int ways tw)]) ?k1 ?k2 ?k3 ?k4 ?k5 ?kA ?kF ?kK ?k6 ?k7 ?k8 ?k9 ?kB ?_ ?c2 ?c3 ?c4 ?c5; (case kA => exact rfl); (case kF => exact rfl); (case kK => assumption); (case k1 => k_asm); (case k2 => k_asm); (case k3 => k_asm); (case k4 => k_asm); (case k5 => k_asm); (case k6 => k_is); (case k7 => k_is); (case k8 => ktr_room); (case k9 => exact BindsTo.of_eq rfl); (case c5 => decide); (case kB => exact locs rfl); (case c2 => exact rfl); (case c3 => exact rfl); (case c4 => exact rfl); k_whole; intro g' L' h' FG' F' N' B' X' T'; (try dsimp only))
  refine gen_tok ?_
  intro tk0
  refine noE ?_
  have hls' : g'.IsList l ls.toArray := hls.at fun o e => FG'.keep l o e
  k_steps
  · have e : (if ns.getD i.toNat 0 < 0 then -ns.getD i.toNat 0 else ns.getD i.toNat 0).fmod ways = partI ns i ways := (if_pos (by assumption)).symm
    rw [e]
    exact hret _ _ _ (by k_asm) (by k_asm)
  · have e : partI ns i ways = 0 := if_neg (by assumption)
    rw [e] at hret
    exact hret _ _ _ (by k_asm) (by k_asm)
local macro_rules | `(tactic| k_mem) => `(tactic| first | exact List.Mem.head _ | assumption | exact List.mem_append_right _ (by assumption) | (refine' List.Mem.tail _ ?_; k_mem))
local macro_rules | `(tactic| k_all) => `(tactic| with_reducible assumption)
local macro_rules | `(tactic| k_upd) => `(tactic| first | exact upd_dx (by with_reducible assumption) | exact upd_pa (by with_reducible assumption) | exact upd_ra (by with_reducible assumption) | exact upd_ba (by with_reducible assumption) | exact upd_bd (by with_reducible assumption))
local macro_rules | `(tactic| k_ne) => `(tactic| (refine neN ?_; (try dsimp only); first | with_reducible assumption | exact Ne.symm (by with_reducible assumption) | omega))
theorem lnsSol0 : True := by
  w_top off
  k_with_none
  k_with "mine pure" => ((case k1 => k_asm); (case k2 => k_asm); (case k3 => k_asm); (case k4 => k_asm); (case k5 => k_asm); (case k6 => first | exact rfl | assumption); (case k7 => ktr_room); (case k8 => ktr_units); intro t9z h9z tk9z F9z N9z; (try dsimp only); (try k_fold))
  k_with "execs cons" => (k_here; (with_reducible show wpAny _ _ _ _ _ (Shared.mk _ _ _ (_ + _) _)); refine gen_tok ?_; intro tk9z)
  k_with "execs nil" => (k_here; (with_reducible show wpAny _ _ _ _ _ (Shared.mk _ _ _ (_ + _) _)); refine gen_tok ?_; intro tk9z)
  k_with "WiPost" => (dsimp only [WiPost])
  k_with "mine bool" => (simp only [isLetter, isHex, leS, *, decide_true, decide_false, Bool.not_true, Bool.not_false, Bool.and_true, Bool.true_and, Bool.and_false, Bool.false_and, Bool.or_true, Bool.true_or, Bool.or_false, Bool.false_or, not_true_eq_false, not_false_eq_true])
  k_with "WgPost" => (dsimp only [WgPost])
  k_with "mine steps" => repeat' (first | (k_unfold; (try dsimp only)) | (k_end; wrow_close) | ((fail_if_success (with_reducible show wpAny _ _ (exec (Stmt.While _ _ _ _) _) _ _ _)); (fail_if_success (with_reducible show wpAny _ _ (exec (Stmt.For _ _ _ _ _) _) _ _ _)); walk1) | (dsimp only; walk1) | (leave1; walk_say "STEP leave1"; try dsimp only) | fail "no step")
  k_with "call ref" => (k_here; (with_reducible show wpAny _ _ (call (Value.ref 67) _) _ _ _); k_dflt ((refine' SpecP.use (is_digit_spec _ _ _) ?k1 ?k2 ?k3 ?k4 ?k5 ?k6 ?k7 ?k8 ?_); k_extra "mine pure"))
  k_with "call ref" => (k_here; (with_reducible show wpAny _ _ (call (Value.ref 60) _) _ _ _); k_dflt ((refine' SpecP.use (is_letter_spec _ _ _) ?k1 ?k2 ?k3 ?k4 ?k5 ?k6 ?k7 ?k8 ?_); k_extra "mine pure"))
  k_with "call ref" => (k_here; (with_reducible show wpAny _ _ (call (Value.ref 74) _) _ _ _); k_dflt ((refine' SpecP.use (is_hex_spec _ _ _) ?k1 ?k2 ?k3 ?k4 ?k5 ?k6 ?k7 ?k8 ?_); k_extra "mine pure"))
  k_with "call ref" => (k_here; (with_reducible show wpAny _ _ (call (Value.ref 123) _) _ _ _); k_dflt ((refine' SpecP.use (word_end_spec _ _ _ _ _ (by with_reducible assumption) (by first | with_reducible assumption | omega)) ?k1 ?k2 ?k3 ?k4 ?k5 ?k6 ?k7 ?k8 ?_); k_extra "mine pure"))
  k_with "call ref" => (k_here; (with_reducible show wpAny _ _ (call (Value.ref 130) _) _ _ _); k_dflt ((refine' SpecP.use (digits_end_spec _ _ _ _ _ (by with_reducible assumption) (by first | with_reducible assumption | omega)) ?k1 ?k2 ?k3 ?k4 ?k5 ?k6 ?k7 ?k8 ?_); k_extra "mine pure"))
  k_with "call ref" => (k_here; (with_reducible show wpAny _ _ (call (Value.ref 102) _) _ _ _); k_dflt ((refine' SpecP.use (gap_end_spec _ _ _ _ _ (by with_reducible assumption) (by first | with_reducible assumption | omega)) ?k1 ?k2 ?k3 ?k4 ?k5 ?k6 ?k7 ?k8 ?_); k_extra "mine pure"))
  k_with "call ref" => (k_here; (with_reducible show wpAny _ _ (call (Value.ref 137) _) _ _ _); k_dflt ((refine' SpecP.use (number_end_spec _ _ _ _ _ (by with_reducible assumption) (by first | with_reducible assumption | omega)) ?k1 ?k2 ?k3 ?k4 ?k5 ?k6 ?k7 ?k8 ?_); k_extra "mine pure"))
  k_with "call ref" => (k_here; (with_reducible show wpAny _ _ (call (Value.ref 144) _) _ _ _); k_dflt ((refine' SpecP.use (sign_end_spec _ _ _ _ _ (by with_reducible assumption) (by first | with_reducible assumption | omega) (by first | with_reducible assumption | omega)) ?k1 ?k2 ?k3 ?k4 ?k5 ?k6 ?k7 ?k8 ?_); k_extra "mine pure"))
  k_with "call ref" => (k_here; (with_reducible show wpAny _ _ (call (Value.ref 109) _) _ _ _); k_dflt ((refine' SpecP.use (remark_end_spec _ _ _ _ _ (by with_reducible assumption) (by first | with_reducible assumption | omega)) ?k1 ?k2 ?k3 ?k4 ?k5 ?k6 ?k7 ?k8 ?_); k_extra "mine pure"))
  k_with "mine s1" => ((case k1 => k_asm); (case k2 => k_asm); (case k3 => k_asm); (case k4 => k_asm))
  k_with "mine s2" => ((case k5 => k_asm); (case k6 => first | exact rfl | assumption); (case k7 => ktr_room); (case k8 => ktr_units); intro v9z n9z h9z tk9z F9z N9z R9z; obtain ⟨e9z, e8z⟩ := R9z; subst e9z; (replace e8z := e8z.symm); subst e8z; (try dsimp only); (try k_fold))
  k_with "callWith" => (with_reducible refine callWith_method1 ?_)
  k_with "call builtin:len" => (k_here; (with_reducible show wpAny _ _ (call (Value.builtin "len") [Value.ref _]) _ _ _); k_dflt (refine' len_list ?k1 ?k2 ?_; (case k1 => exact News.isList (by k_asm) (by k_mem)); (case k2 => ((try simp only [List.size_toArray, List.length_append, List.length_cons, List.length_nil]); omega)); k_whole))
  k_with "call builtin:list.append" => (k_here; (with_reducible show wpAny _ _ (call (Value.builtin _) [Value.ref _, _]) _ _ _); k_dflt (refine' append_K ?k1 ?k2 ?k3 ?_ ?z; (case k1 => k_asm); (case k2 => k_asm); (case k3 => k_upd); (case z => ((try simp only [List.size_toArray, List.length_append, List.length_cons, List.length_nil]); rw [sizeLine_eq]; omega)); k_whole); intro h9z F9z N9z; (try k_sweep))
  k_with "binaryOp Add str str" => (k_here; (with_reducible show wpAny _ _ (binaryOp Operator.Add (Value.str _ _) (Value.str _ _)) _ _ _); refine' KOpn.add ?z ?_; (case z => ((have e1 := lenSp); (have e2 := lenEm); omega)); intro t9z k9z l9z)
  k_with "call builtin:str.join" => (k_here; (with_reducible show wpAny _ _ (call (Value.builtin _) [Value.str _ _, Value.ref _]) _ _ _); k_dflt (refine' join_list (News.isList (by k_asm) (by k_mem)) ?k2 ?k3 ?_; (case k2 => assumption); (case k3 => assumption); intro tj9z kj9z))
  k_with "call ref" => (k_here; (with_reducible show wpAny _ _ (call (Value.ref 165) _) _ _ _); k_dflt ((refine' SpecC.use (source_items_spec _ _ _ _ _ (by with_reducible assumption) (by with_reducible assumption)) ?k1 ?k2 ?k3 ?k4 ?k5 ?k6 ?k7 ?k8 ?_); (case k1 => k_asm); (case k2 => k_asm); (case k3 => k_asm); (case k4 => k_asm); (case k5 => k_asm); (case k6 => first | exact rfl | assumption); (case k7 => ktr_room); (case k8 => ktr_units); intro v9z n9z h9z tk9z F9z N9z R9z; obtain ⟨ll, nn, is, e9z, e8z, he, ho, hlt⟩ := R9z; subst e9z e8z; (try dsimp only); (try k_fold)))
  k_with "eval ListComp" => (k_here; k_dflt (refine LCt.ListComp_T (F₀ := by k_asm) (by with_unfolding_all rfl) (by decide) (by rfl) (by decide) (by rfl) ?_))
  trivial
noncomputable def solidW (p : Str × Str) : Bool := ![Str.ofString "gap", Str.ofString "remark"].any fun x => x == p.1
theorem itemsF_len {src : Str} : ∀ {n : Nat} {j : Int} {its : List (Str × Str)}, itemsF src n j = some its → its.length ≤ n := by
  intro n
  induction n with
  | zero =>
    intro j its h
    simp only [itemsF] at h
    split at h
    · cases h
    · cases h; exact Nat.le_refl _
  | succ n ih =>
    intro j its h
    simp only [itemsF] at h
    split at h
    · split at h
      · cases h
      · obtain ⟨r, hr, rfl⟩ := Option.map_eq_some_iff.mp h
        rw [List.length_cons]
        exact Nat.succ_le_succ (ih hr)
    · cases h; exact Nat.zero_le _
theorem itmsL_mem {w : World} {t : Itm} : ∀ {is : List Itm}, t ∈ is → (t.ix, instObj 91 t.dx) ∈ itmsL w is ∧ (t.dx, itmD w t) ∈ itmsL w is
  | a :: r, h => by
    rcases List.mem_cons.mp h with rfl | h
    · exact ⟨.head _, .tail _ (.head _)⟩
    · exact ⟨.tail _ (.tail _ (itmsL_mem h).1), .tail _ (.tail _ (itmsL_mem h).2)⟩
theorem solid_spec (w : World) (src : Str) (ts : Tok) (news : Led) (its : List (Str × Str)) (hsz : src.length ≤ 16777216) (hin : itemsF src src.length 0 = some its) :
    SpecC w 10 378 [.str src ts] news (fun v n' => ∃ (l : Addr) (vs : List Value) (n : Nat), v = .ref l ∧ n' = (l, listOf vs.toArray n) :: news ∧ StrsAre vs ((its.filter solidW).map (·.2))) := by
  unfold SpecC
  intro mean mg mb dp un gd cn cs a ccd cl outer A₀ base h₀ L m s Q E hB9 hF9 hX9 hN9 hT9 hk hd hu hret
  refine wpAny_call ?_
  k_dflt (refine' code_def (binds := [(Str.ofString "source", Value.str src ts)]) ?k1 ?k2 ?k3 ?k4 ?k5 ?kA ?kF ?kK ?k6 ?k7 ?k8 ?k9 ?kB ?_ ?c2 ?c3 ?c4 ?c5; (case kA => exact rfl); (case kF => exact rfl); (case kK => assumption); (case k1 => k_asm); (case k2 => k_asm); (case k3 => k_asm); (case k4 => k_asm); (case k5 => k_asm); (case k6 => k_is); (case k7 => k_is); (case k8 => ktr_room); (case k9 => exact BindsTo.of_eq rfl); (case c5 => decide); (case kB => exact locs rfl); (case c2 => exact rfl); (case c3 => exact rfl); (case c4 => exact rfl); k_whole; intro g' L' h' FG' F' N' B' X' T'; (try dsimp only))
  refine gen_tok ?_
  intro tk0
  refine noE ?_
  k_steps
  have hlen : is.length ≤ 16777216 := by
    have := itemsF_len hin
    rw [← he, List.length_map] at this
    omega
  refine LCt.CompSrcT.ledger (by rfl) (by k_asm) (by k_asm) (List.mem_cons_self ..) ?_ (fun g9 => cmpT_rest (xs := is) (fun v (a : Itm) => v = .ref a.ix) (fun a => ![Str.ofString "gap", Str.ofString "remark"].any fun x => x == a.kind) (fun a => a.text) ?_ ?_ ?_ ?_ ?_)
  · simp only [List.size_toArray, List.length_map, sizeLine_eq]; omega
  · intro i v hv
    rw [List.getElem?_map] at hv
    obtain ⟨a, ha, rfl⟩ := Option.map_eq_some_iff.mp hv
    exact ⟨a, ha, rfl⟩
  · simp
  · exact Or.inr ⟨_, List.mem_cons_self .., rfl, _, rfl⟩
  · intro a v I oI C oC D m₂ ys h tk E' ha hv hC hx F N off ne
    subst hv
    have hm1 : (a.ix, instObj 91 a.dx) ∈ itmsL w is ++ news := List.mem_append_left _ (itmsL_mem ha).1
    have hm2 : (a.dx, itmD w a) ∈ itmsL w is ++ news := List.mem_append_left _ (itmsL_mem ha).2
    k_steps
    all_goals first | rfl | k_asm | exact news_tup (by k_asm)
  · intro ys hys
    have hys2 : StrsAre ys ((its.filter solidW).map (·.2)) := by
      rw [← he, List.filter_map, List.map_map]
      exact hys
    k_steps
    refine hret _ _ _ _ (by k_asm) (cb_drop (by assumption) (fun p hp => ?_)) ⟨_, ys, ys.length, rfl, rfl, hys2⟩
    rcases List.mem_cons.mp hp with rfl | hp
    · exact .head _
    · exact .tail _ (.tail _ (List.mem_append_right _ hp))
noncomputable def dgL (c : Nat) : Bool := decide (48 ≤ c) && decide (c ≤ 57)
noncomputable def leL (c : Nat) : Bool := (decide (97 ≤ c) && decide (c ≤ 122)) || (decide (65 ≤ c) && decide (c ≤ 90))
noncomputable def hxL (c : Nat) : Bool := dgL c || (decide (65 ≤ c) && decide (c ≤ 70))
noncomputable def wrL (c : Nat) : Bool := leL c || dgL c
noncomputable def gpL (c : Nat) : Bool := decide (c ≤ 32)
noncomputable def spanL (p : Nat → Bool) : List Nat → Nat
  | [] => 0
  | c :: r => if p c = true then spanL p r + 1 else 0
noncomputable def atL (p : Nat → Bool) : Option Nat → Bool
  | some c => p c
  | none => false
theorem endW_span (l : List Nat) (P : Int → Bool) (p : Nat → Bool) (hP : ∀ j : Int, 0 ≤ j → P j = atL p l[j.toNat]?) (i : Int) (h0 : 0 ≤ i) : endW l.length P i = i + spanL p (l.drop i.toNat) := by
  unfold endW
  have key : ∀ (n : Nat) (i : Int), 0 ≤ i → l.length - i.toNat = n → scanW P n i = i + spanL p (l.drop i.toNat) := by
    intro n
    induction n with
    | zero =>
      intro i h0 hn
      rw [List.drop_eq_nil_of_le (by omega)]
      simp [scanW, spanL]
    | succ n ih =>
      intro i h0 hn
      have hlt : i.toNat < l.length := by omega
      rw [List.drop_eq_getElem_cons hlt]
      simp only [scanW, hP i h0, List.getElem?_eq_getElem hlt, atL, spanL]
      by_cases hp : p l[i.toNat] = true
      · rw [if_pos hp, if_pos hp, ih (i + 1) (by omega) (by omega)]
        have : (i + 1).toNat = i.toNat + 1 := by omega
        rw [this]
        omega
      · rw [if_neg hp, if_neg hp]
        omega
  exact key _ i h0 rfl
theorem ltL_one (a b : Nat) : decide (([a] : List Nat) < [b]) = decide (a < b) := by
  by_cases h : a < b
  · rw [decide_eq_true h]
    exact decide_eq_true (show ([a] : List Nat) < [b] from List.Lex.rel h)
  · rw [decide_eq_false h]
    refine decide_eq_false fun x => ?_
    have x : List.Lex (· < ·) [a] [b] := x
    cases x with
    | rel y => exact h y
    | cons y => cases y
theorem c0 : (Str.ofString "0").cps.toList = [48] := by decide +kernel
theorem c9 : (Str.ofString "9").cps.toList = [57] := by decide +kernel
theorem ca : (Str.ofString "a").cps.toList = [97] := by decide +kernel
theorem cz : (Str.ofString "z").cps.toList = [122] := by decide +kernel
theorem cA : (Str.ofString "A").cps.toList = [65] := by decide +kernel
theorem cZ : (Str.ofString "Z").cps.toList = [90] := by decide +kernel
theorem cF : (Str.ofString "F").cps.toList = [70] := by decide +kernel
theorem not_lt_le (a b : Nat) : (!decide (a < b)) = decide (b ≤ a) := by
  by_cases h : a < b
  · rw [decide_eq_true h, decide_eq_false (by omega)]; rfl
  · rw [decide_eq_false h, decide_eq_true (by omega)]; rfl
theorem isDigit_o (o : Option Nat) : isDigit ⟨o.toList.toArray⟩ = atL dgL o := by
  cases o with
  | none => decide +kernel
  | some c => simp only [isDigit, c0, c9, Option.toList, ltL_one, not_lt_le, atL, dgL]
theorem isLetter_o (o : Option Nat) : isLetter ⟨o.toList.toArray⟩ = atL leL o := by
  cases o with
  | none => decide +kernel
  | some c => simp only [isLetter, leS, ca, cz, cA, cZ, Option.toList, ltL_one, not_lt_le, atL, leL]
theorem isHex_o (o : Option Nat) : isHex ⟨o.toList.toArray⟩ = atL hxL o := by
  cases o with
  | none => decide +kernel
  | some c => simp only [isHex, leS, isDigit, c0, c9, cA, cF, Option.toList, ltL_one, not_lt_le, atL, hxL, dgL]
section
variable (l : List Nat) (i : Int) (h0 : 0 ≤ i)
abbrev sL (l : List Nat) : Str := ⟨l.toArray⟩
theorem sL_len : (sL l).length = l.length := by simp [PySem.Str.length]
include h0 in
theorem sL_one : Txt.slice (sL l) (some i) (some (i + 1)) = ⟨l[i.toNat]?.toList.toArray⟩ := by rw [sl_one h0]
include h0 in
theorem sL_sl {j : Int} (hj : i ≤ j) : Txt.slice (sL l) (some i) (some j) = ⟨((l.drop i.toNat).take (j - i).toNat).toArray⟩ := by rw [sl_eq h0 hj]
include h0 in
theorem digits_L : digitsE (sL l) i = i + spanL dgL (l.drop i.toNat) := by
  unfold digitsE
  rw [sL_len]
  exact endW_span l _ _ (fun j hj => by rw [digP, sL_one l j hj, isDigit_o]) i h0
include h0 in
theorem hex_L : hexE (sL l) i = i + spanL hxL (l.drop i.toNat) := by
  unfold hexE
  rw [sL_len]
  exact endW_span l _ _ (fun j hj => by rw [hexP, sL_one l j hj, isHex_o]) i h0
include h0 in
theorem word_L : wordE (sL l) i = i + spanL wrL (l.drop i.toNat) := by
  unfold wordE
  rw [sL_len]
  refine endW_span l _ _ (fun j hj => ?_) i h0
  rw [worP, sL_one l j hj, isDigit_o, isLetter_o]
  cases l[j.toNat]? <;> rfl
include h0 in
theorem item_L {c : Nat} (hc : l[i.toNat]? = some c) : Txt.item (sL l) i = ⟨#[c]⟩ := by
  have hlt : i.toNat < l.length := (List.getElem?_eq_some_iff.mp hc).1
  unfold Txt.item Txt.charAt
  have e : PySem.seqIndex? i (sL l).length = some i.toNat := by
    unfold PySem.seqIndex?
    rw [sL_len]
    simp only []
    have h1 : ¬ i < 0 := by omega
    simp only [h1, if_false]
    simp [h0, show i < (l.length : Int) by omega]
  rw [e]
  simp [hc]
include h0 in
theorem gap_L : gapE (sL l) i = i + spanL gpL (l.drop i.toNat) := by
  unfold gapE
  rw [sL_len]
  refine endW_span l _ _ (fun j hj => ?_) i h0
  rw [gapP, sL_len]
  cases h : l[j.toNat]? with
  | none =>
    have : ¬ j < (l.length : Int) := by
      have := List.getElem?_eq_none_iff.mp h
      omega
    rw [decide_eq_false this]
    rfl
  | some c =>
    have : j < (l.length : Int) := by
      have := (List.getElem?_eq_some_iff.mp h).1
      omega
    rw [decide_eq_true this, item_L l j hj h]
    simp only [Bool.true_and, atL, gpL]
    have : (((#[c] : Array Nat).getD 0 0 : Nat) : Int) = (c : Int) := rfl
    rw [this]
    by_cases q : c ≤ 32
    · rw [decide_eq_true q, decide_eq_true (by omega)]
    · rw [decide_eq_false q, decide_eq_false (by omega)]
end
theorem one_beq (a b : Nat) : ((⟨#[a]⟩ : Str) == ⟨#[b]⟩) = decide (a = b) := by
  by_cases h : a = b
  · subst h; rw [decide_eq_true rfl]; exact beq_self_eq_true _
  · rw [decide_eq_false h]
    refine beq_eq_false_iff_ne.mpr fun e => h ?_
    have e2 := congrArg (fun x : Str => x.cps.toList) e
    simpa using e2
theorem oneo_beq (a : Nat) (o : Option Nat) : ((⟨#[a]⟩ : Str) == ⟨o.toList.toArray⟩) = (o == some a) := by
  cases o with
  | none =>
    refine beq_eq_false_iff_ne.mpr fun e => ?_
    have e2 := congrArg (fun x : Str => x.cps.toList) e
    simp at e2
  | some c =>
    refine (one_beq a c).trans ?_
    by_cases h : a = c
    · subst h; simp
    · rw [decide_eq_false h]
      refine (beq_eq_false_iff_ne.mpr fun e => h ?_).symm
      exact (Option.some.inj e).symm
theorem oneo_beq' (a : Nat) (o : Option Nat) : ((⟨o.toList.toArray⟩ : Str) == ⟨#[a]⟩) = (o == some a) := by
  rw [← oneo_beq, Bool.eq_iff_iff, beq_iff_eq, beq_iff_eq]
  exact ⟨Eq.symm, Eq.symm⟩
theorem oneo_bne' (a : Nat) (o : Option Nat) : ((⟨o.toList.toArray⟩ : Str) != ⟨#[a]⟩) = (o != some a) := by
  unfold bne
  rw [oneo_beq']
theorem sH : Str.ofString "H" = ⟨#[72]⟩ := by decide +kernel
theorem sX : Str.ofString "X" = ⟨#[88]⟩ := by decide +kernel
theorem sDot : Str.ofString "." = ⟨#[46]⟩ := by decide +kernel
theorem sE : Str.ofString "E" = ⟨#[69]⟩ := by decide +kernel
theorem sPlus : Str.ofString "+" = ⟨#[43]⟩ := by decide +kernel
theorem sMinus : Str.ofString "-" = ⟨#[45]⟩ := by decide +kernel
noncomputable def numL (d : List Nat) : Nat :=
  if (d[spanL hxL d]? == some 72 || d[spanL hxL d]? == some 88) = true then spanL hxL d + 1
  else if ((d[spanL dgL d]? != some 46) || (d[spanL dgL d + 1]? == some 46)) = true then spanL dgL d
  else if (d[spanL dgL d + 1 + spanL dgL (d.drop (spanL dgL d + 1))]? != some 69) = true then spanL dgL d + 1 + spanL dgL (d.drop (spanL dgL d + 1))
  else if (d[spanL dgL d + 1 + spanL dgL (d.drop (spanL dgL d + 1)) + 1]? == some 43 || d[spanL dgL d + 1 + spanL dgL (d.drop (spanL dgL d + 1)) + 1]? == some 45) = true then
    (if spanL dgL (d.drop (spanL dgL d + 1 + spanL dgL (d.drop (spanL dgL d + 1)) + 2)) = 0 then spanL dgL d + 1 + spanL dgL (d.drop (spanL dgL d + 1))
     else spanL dgL d + 1 + spanL dgL (d.drop (spanL dgL d + 1)) + 2 + spanL dgL (d.drop (spanL dgL d + 1 + spanL dgL (d.drop (spanL dgL d + 1)) + 2)))
  else (if spanL dgL (d.drop (spanL dgL d + 1 + spanL dgL (d.drop (spanL dgL d + 1)) + 1)) = 0 then spanL dgL d + 1 + spanL dgL (d.drop (spanL dgL d + 1))
     else spanL dgL d + 1 + spanL dgL (d.drop (spanL dgL d + 1)) + 1 + spanL dgL (d.drop (spanL dgL d + 1 + spanL dgL (d.drop (spanL dgL d + 1)) + 1)))
section
variable (l : List Nat) (i : Int) (h0 : 0 ≤ i)
include h0
theorem slN (n : Nat) (x y : Int) (hx : x = i + n) (hy : y = x + 1) : Txt.slice (sL l) (some x) (some y) = ⟨(l.drop i.toNat)[n]?.toList.toArray⟩ := by
  subst hy
  rw [sL_one l x (by omega), List.getElem?_drop]
  have : x.toNat = i.toNat + n := by omega
  rw [this]
theorem digN (n : Nat) (x : Int) (hx : x = i + n) : digitsE (sL l) x = x + spanL dgL ((l.drop i.toNat).drop n) := by
  rw [digits_L l x (by omega), List.drop_drop]
  have : x.toNat = i.toNat + n := by omega
  rw [this]
theorem num_L : numberE (sL l) i = i + numL (l.drop i.toNat) := by
  generalize hd : l.drop i.toNat = d
  have hH : hexE (sL l) i = i + (spanL hxL d : Nat) := by rw [hex_L l i h0, hd]
  have hA : digitsE (sL l) i = i + (spanL dgL d : Nat) := by rw [digits_L l i h0, hd]
  have hB : digitsE (sL l) (i + (spanL dgL d : Nat) + 1) = i + ((spanL dgL d + 1 + spanL dgL (d.drop (spanL dgL d + 1)) : Nat) : Int) := by
    rw [digN l i h0 (spanL dgL d + 1) _ (by omega), hd]; omega
  unfold numberE numL
  rw [hH, hA, hB]
  generalize spanL hxL d = H
  generalize spanL dgL d = A
  generalize A + 1 + spanL dgL (d.drop (A + 1)) = B
  have hC : digitsE (sL l) (i + (B : Int) + 1 + 1) = i + ((B + 2 + spanL dgL (d.drop (B + 2)) : Nat) : Int) := by
    rw [digN l i h0 (B + 2) _ (by omega), hd]; omega
  have hD : digitsE (sL l) (i + (B : Int) + 1) = i + ((B + 1 + spanL dgL (d.drop (B + 1)) : Nat) : Int) := by
    rw [digN l i h0 (B + 1) _ (by omega), hd]; omega
  rw [hC, hD]
  rw [slN l i h0 H _ (i + (H : Int) + 1) (by omega) (by omega), slN l i h0 A _ (i + (A : Int) + 1) (by omega) (by omega), slN l i h0 (A + 1) _ (i + (A : Int) + 2) (by omega) (by omega), slN l i h0 B _ (i + (B : Int) + 1) (by omega) (by omega), slN l i h0 (B + 1) _ (i + (B : Int) + 1 + 1) (by omega) (by omega), hd]
  simp only [List.any_cons, List.any_nil, Bool.or_false, sH, sX, sDot, sE, sPlus, sMinus, oneo_beq, oneo_beq', oneo_bne']
  generalize spanL dgL (d.drop (B + 2)) = C
  generalize spanL dgL (d.drop (B + 1)) = D
  by_cases q1 : (d[H]? == some 72 || d[H]? == some 88) = true
  · rw [if_pos q1, if_pos q1]; omega
  rw [if_neg q1, if_neg q1]
  by_cases q2 : (d[A]? != some 46 || d[A + 1]? == some 46) = true
  · rw [if_pos q2, if_pos q2]
  rw [if_neg q2, if_neg q2]
  by_cases q3 : (d[B]? != some 69) = true
  · rw [if_pos q3, if_pos q3]
  rw [if_neg q3, if_neg q3]
  by_cases q4 : (d[B + 1]? == some 43 || d[B + 1]? == some 45) = true
  · rw [if_pos q4, if_pos q4]
    by_cases q5 : C = 0
    · rw [if_pos q5, if_pos (by omega)]
    · rw [if_neg q5, if_neg (by omega)]
  · rw [if_neg q4, if_neg q4]
    by_cases q5 : D = 0
    · rw [if_pos q5, if_pos (by omega)]
    · rw [if_neg q5, if_neg (by omega)]
end
theorem two_beq (a b c d : Nat) : ((⟨#[a, b]⟩ : Str) == ⟨#[c, d]⟩) = (decide (a = c) && decide (b = d)) := by
  by_cases h : a = c ∧ b = d
  · obtain ⟨rfl, rfl⟩ := h
    rw [decide_eq_true rfl, decide_eq_true rfl]
    exact beq_self_eq_true _
  · have : (decide (a = c) && decide (b = d)) = false := by
      rw [Bool.eq_false_iff]
      intro e
      simp only [Bool.and_eq_true, decide_eq_true_eq] at e
      exact h e
    rw [this]
    refine beq_eq_false_iff_ne.mpr fun e => h ?_
    have e2 := congrArg (fun x : Str => x.cps.toList) e
    simpa using e2
theorem one_two (a c d : Nat) : ((⟨#[a]⟩ : Str) == ⟨#[c, d]⟩) = false := beq_eq_false_iff_ne.mpr fun e => by
  have e2 := congrArg (fun x : Str => x.cps.toList) e
  simp at e2
theorem two_beq' (a b c d : Nat) : ((⟨[a, b].toArray⟩ : Str) == ⟨#[c, d]⟩) = (decide (a = c) && decide (b = d)) := two_beq a b c d
/-- the pair of signs at the head, compared with a written pair -/
noncomputable def prL (l : List Nat) (a b : Nat) : Bool :=
  match l with
  | c :: d :: _ => decide (c = a) && decide (d = b)
  | _ => false
theorem pr_L (l : List Nat) (i : Int) (h0 : 0 ≤ i) (a b : Nat) : (Txt.slice (sL l) (some i) (some (i + 2)) == (⟨#[a, b]⟩ : Str)) = prL (l.drop i.toNat) a b := by
  rw [sL_sl l i h0 (by omega)]
  have : (i + 2 - i).toNat = 2 := by omega
  rw [this]
  match l.drop i.toNat with
  | [] =>
    refine beq_eq_false_iff_ne.mpr fun e => ?_
    have e2 := congrArg (fun x : Str => x.cps.toList) e
    simp at e2
  | [c] => exact one_two c a b
  | c :: d :: r => exact two_beq c d a b
theorem pr_L' (l : List Nat) (i : Int) (h0 : 0 ≤ i) (a b : Nat) : ((⟨#[a, b]⟩ : Str) == Txt.slice (sL l) (some i) (some (i + 2))) = prL (l.drop i.toNat) a b := by
  rw [← pr_L l i h0, Bool.eq_iff_iff, beq_iff_eq, beq_iff_eq]
  exact ⟨Eq.symm, Eq.symm⟩
theorem sOC : Str.ofString "(*" = ⟨#[40, 42]⟩ := by decide +kernel
theorem sCC : Str.ofString "*)" = ⟨#[42, 41]⟩ := by decide +kernel
theorem s1 : Str.ofString ":=" = ⟨#[58, 61]⟩ := by decide +kernel
theorem s2 : Str.ofString "<=" = ⟨#[60, 61]⟩ := by decide +kernel
theorem s3 : Str.ofString ">=" = ⟨#[62, 61]⟩ := by decide +kernel
theorem s4 : Str.ofString ".." = ⟨#[46, 46]⟩ := by decide +kernel
noncomputable def sgnL (c : Nat) : Bool := [46, 59, 40, 41, 61, 58].contains c
noncomputable def signL (d : List Nat) : Nat :=
  if (prL d 58 61 || prL d 60 61 || prL d 62 61 || prL d 46 46) = true then 2
  else if atL sgnL d[0]? = true then 1 else 0
theorem occ_sgn (c : Nat) (h : sgnL c = true) : (Builtin.Str.occurrences (Str.ofString "+-*/~&.,;|([{^=#<>:)]}") ⟨#[c]⟩ 0 (Str.ofString "+-*/~&.,;|([{^=#<>:)]}").length 1).isEmpty = false := by
  have : c = 46 ∨ c = 59 ∨ c = 40 ∨ c = 41 ∨ c = 61 ∨ c = 58 := by simpa [sgnL] using h
  rcases this with rfl | rfl | rfl | rfl | rfl | rfl <;> decide +kernel
theorem sign_L (l : List Nat) (i : Int) (h0 : 0 ≤ i) (h : signL (l.drop i.toNat) ≠ 0) : signE (sL l) i = i + signL (l.drop i.toNat) := by
  unfold signE
  unfold signL at h ⊢
  simp only [List.any_cons, List.any_nil, Bool.or_false, s1, s2, s3, s4, pr_L' l i h0, ← Bool.or_assoc]
  by_cases q : (prL (l.drop i.toNat) 58 61 || prL (l.drop i.toNat) 60 61 || prL (l.drop i.toNat) 62 61 || prL (l.drop i.toNat) 46 46) = true
  · rw [if_pos q, if_pos q]; rfl
  rw [if_neg q] at h ⊢
  rw [if_neg q]
  by_cases q2 : atL sgnL (l.drop i.toNat)[0]? = true
  · rw [if_pos q2]
    cases hc : (l.drop i.toNat)[0]? with
    | none => rw [hc] at q2; cases q2
    | some c =>
      rw [hc] at q2
      have hc2 : l[i.toNat]? = some c := by simpa using hc
      rw [item_L l i h0 hc2, occ_sgn c q2, if_neg (by simp)]
      rfl
  · rw [if_neg q2] at h; exact absurd rfl h
noncomputable def remL : Nat → List Nat → Int → Option Nat
  | 0, _, _ => none
  | _ + 1, [], _ => none
  | n + 1, c :: r, d =>
    if prL (c :: r) 40 42 = true then (remL n (r.drop 1) (d + 1)).map (· + 2)
    else if prL (c :: r) 42 41 = true then (if d - 1 = 0 then some 2 else (remL n (r.drop 1) (d - 1)).map (· + 2))
    else (remL n r d).map (· + 1)
theorem rem_L (l : List Nat) : ∀ (n : Nat) (i d : Int) (k : Nat), 0 ≤ i → remL n (l.drop i.toNat) d = some k → remS (sL l) n i d = i + k := by
  intro n
  induction n with
  | zero => intro i d k h0 h; simp [remL] at h
  | succ n ih =>
    intro i d k h0 h
    by_cases hlt : i.toNat < l.length
    · have e := List.drop_eq_getElem_cons hlt
      have e2 : (l.drop (i.toNat + 1)).drop 1 = l.drop (i + 2).toNat := by
        rw [List.drop_drop]
        have : (i + 2).toNat = i.toNat + 1 + 1 := by omega
        rw [this]
      have e1 : l.drop (i.toNat + 1) = l.drop (i + 1).toNat := by
        have : (i + 1).toNat = i.toNat + 1 := by omega
        rw [this]
      have hl : i < ((sL l).length : Int) := by rw [sL_len]; omega
      simp only [remS, if_pos hl, sOC, sCC, pr_L l i h0]
      rw [e] at h ⊢
      simp only [remL] at h
      by_cases q1 : prL (l[i.toNat] :: l.drop (i.toNat + 1)) 40 42 = true
      · rw [if_pos q1] at h ⊢
        rw [e2] at h
        obtain ⟨k', h', rfl⟩ := Option.map_eq_some_iff.mp h
        rw [ih (i + 2) (d + 1) k' (by omega) h']
        omega
      rw [if_neg q1] at h ⊢
      by_cases q2 : prL (l[i.toNat] :: l.drop (i.toNat + 1)) 42 41 = true
      · rw [if_pos q2] at h ⊢
        by_cases q3 : d - 1 = 0
        · rw [if_pos q3] at h ⊢
          cases h
          rfl
        rw [if_neg q3] at h ⊢
        rw [e2] at h
        obtain ⟨k', h', rfl⟩ := Option.map_eq_some_iff.mp h
        rw [ih (i + 2) (d - 1) k' (by omega) h']
        omega
      rw [if_neg q2] at h ⊢
      rw [e1] at h
      obtain ⟨k', h', rfl⟩ := Option.map_eq_some_iff.mp h
      rw [ih (i + 1) d k' (by omega) h']
      omega
    · rw [List.drop_eq_nil_of_le (by omega)] at h
      simp [remL] at h
theorem rem_L' (l : List Nat) (i : Int) (k : Nat) (h0 : 0 ≤ i) (h : remL ((l.drop i.toNat).length + 1) (l.drop i.toNat) 0 = some k) : remE (sL l) i = i + k := by
  unfold remE
  rw [← rem_L l _ i 0 k h0 h]
  refine remS_fuel (sL l) _ _ i 0 h0 ?_ ?_
  · rw [sL_len]; omega
  · rw [sL_len, List.length_drop]; omega
/-- the item at the head of a text: its kind and its length -/
noncomputable def lexL (d : List Nat) : Option (Str × Nat) :=
  match d with
  | [] => none
  | c :: r =>
    if c ≤ 32 then some (Str.ofString "gap", spanL gpL (c :: r))
    else if prL (c :: r) 40 42 = true then (remL ((c :: r).length + 1) (c :: r) 0).map fun n => (Str.ofString "remark", n)
    else if leL c = true then some (if (KW.any fun x => x == (⟨((c :: r).take (spanL wrL (c :: r))).toArray⟩ : Str)) = true then Str.ofString "word" else Str.ofString "name", spanL wrL (c :: r))
    else if dgL c = true then some (Str.ofString "number", numL (c :: r))
    else if c = 34 then none
    else if signL (c :: r) = 0 then none else some (Str.ofString "sign", signL (c :: r))
theorem lex_L (l : List Nat) (i : Int) (h0 : 0 ≤ i) (K : Str) (m : Nat) (h : lexL (l.drop i.toNat) = some (K, m)) : itemS (sL l) i = some (K, ⟨((l.drop i.toNat).take m).toArray⟩) := by
  have slm : ∀ m : Nat, Txt.slice (sL l) (some i) (some (i + (m : Int))) = ⟨((l.drop i.toNat).take m).toArray⟩ := by
    intro m
    rw [sL_sl l i h0 (by omega)]
    have : (i + (m : Int) - i).toNat = m := by omega
    rw [this]
  by_cases hlt : i.toNat < l.length
  · have e := List.drop_eq_getElem_cons hlt
    have hit : Txt.item (sL l) i = ⟨#[l[i.toNat]]⟩ := item_L l i h0 (List.getElem?_eq_getElem hlt)
    have hl1 : isLetter (Txt.item (sL l) i) = leL l[i.toNat] := by rw [hit]; exact isLetter_o (some _)
    have hl2 : isDigit (Txt.item (sL l) i) = dgL l[i.toNat] := by rw [hit]; exact isDigit_o (some _)
    have hg : (((Txt.item (sL l) i).cps.getD 0 0 : Nat) : Int) = (l[i.toNat] : Int) := by rw [hit]; rfl
    have hq : (Txt.item (sL l) i == Str.ofString "\"") = decide (l[i.toNat] = 34) := by
      rw [hit, show Str.ofString "\"" = ⟨#[34]⟩ from by decide +kernel, one_beq]
    unfold itemS
    rw [hg, hl1, hl2, hq, sOC, pr_L l i h0, word_L l i h0, gap_L l i h0, num_L l i h0, slm, slm, slm]
    have hrem : ∀ k, remL ((l.drop i.toNat).length + 1) (l.drop i.toNat) 0 = some k → remE (sL l) i = i + k := fun k hk => rem_L' l i k h0 hk
    have hsg : signL (l.drop i.toNat) ≠ 0 → signE (sL l) i = i + signL (l.drop i.toNat) := sign_L l i h0
    rw [e] at h hrem hsg ⊢
    generalize l[i.toNat] = c at *
    generalize l.drop (i.toNat + 1) = r at *
    unfold lexL at h
    simp only [] at h
    by_cases q1 : c ≤ 32
    · rw [if_pos q1] at h
      rw [if_pos (by omega)]
      cases h
      rfl
    rw [if_neg q1] at h
    rw [if_neg (by omega)]
    by_cases q2 : prL (c :: r) 40 42 = true
    · rw [if_pos q2] at h ⊢
      obtain ⟨k, hk, hk2⟩ := Option.map_eq_some_iff.mp h
      cases hk2
      rw [hrem _ hk, if_pos (by omega), slm, e]
    rw [if_neg q2] at h ⊢
    by_cases q3 : leL c = true
    · rw [if_pos q3] at h ⊢
      cases h
      rfl
    rw [if_neg q3] at h ⊢
    by_cases q4 : dgL c = true
    · rw [if_pos q4] at h ⊢
      cases h
      rfl
    rw [if_neg q4] at h ⊢
    by_cases q5 : c = 34
    · rw [if_pos q5] at h; cases h
    rw [if_neg q5] at h
    rw [if_neg (by simpa using q5)]
    by_cases q6 : signL (c :: r) = 0
    · rw [if_pos q6] at h; cases h
    rw [if_neg q6] at h
    cases h
    rw [hsg q6, if_pos (by omega), slm, e]
  · rw [List.drop_eq_nil_of_le (by omega)] at h
    simp [lexL] at h
noncomputable def lexA : Nat → List Nat → Option (List (Str × Str))
  | _, [] => some []
  | 0, _ :: _ => none
  | n + 1, c :: r => (lexL (c :: r)).bind fun km => if km.2 ≤ (c :: r).length then (lexA n ((c :: r).drop km.2)).map ((km.1, ⟨((c :: r).take km.2).toArray⟩) :: ·) else none
theorem lex_A (l : List Nat) : ∀ (n : Nat) (j : Int) (its : List (Str × Str)), 0 ≤ j → lexA n (l.drop j.toNat) = some its → itemsF (sL l) n j = some its := by
  intro n
  induction n with
  | zero =>
    intro j its h0 h
    by_cases hlt : j.toNat < l.length
    · rw [List.drop_eq_getElem_cons hlt] at h
      simp [lexA] at h
    · rw [List.drop_eq_nil_of_le (by omega)] at h
      simp only [itemsF]
      rw [if_neg (by rw [sL_len]; omega)]
      simpa [lexA] using h
  | succ n ih =>
    intro j its h0 h
    by_cases hlt : j.toNat < l.length
    · have e := List.drop_eq_getElem_cons hlt
      rw [e] at h
      simp only [lexA] at h
      rw [← e] at h
      obtain ⟨⟨K, m⟩, hk, h⟩ := Option.bind_eq_some_iff.mp h
      simp only [] at h
      by_cases hm : m ≤ (l.drop j.toNat).length
      · rw [if_pos hm] at h
        obtain ⟨rest, hr, rfl⟩ := Option.map_eq_some_iff.mp h
        simp only [itemsF]
        rw [if_pos (by rw [sL_len]; omega), lex_L l j h0 K m hk]
        simp only []
        have hlen : ((⟨((l.drop j.toNat).take m).toArray⟩ : Str).length) = m := by
          rw [sL_len, List.length_take]; omega
        rw [hlen, ih (j + m) rest (by omega) ?_]
        · rfl
        · rw [← hr, List.drop_drop]
          have : (j + (m : Int)).toNat = j.toNat + m := by omega
          rw [this]
      · rw [if_neg hm] at h; cases h
    · rw [List.drop_eq_nil_of_le (by omega)] at h
      simp only [itemsF]
      rw [if_neg (by rw [sL_len]; omega)]
      simpa [lexA] using h
theorem lnsFmt10 : True := by
  w_top off
  k_with_none
  k_with "mine pure" => ((case k1 => k_asm); (case k2 => k_asm); (case k3 => k_asm); (case k4 => k_asm); (case k5 => k_asm); (case k6 => first | exact rfl | assumption); (case k7 => ktr_room); (case k8 => ktr_units); intro t9z h9z tk9z F9z N9z; (try dsimp only); (try k_fold))
  k_with "execs cons" => (k_here; (with_reducible show wpAny _ _ _ _ _ (Shared.mk _ _ _ (_ + _) _)); refine gen_tok ?_; intro tk9z)
  k_with "execs nil" => (k_here; (with_reducible show wpAny _ _ _ _ _ (Shared.mk _ _ _ (_ + _) _)); refine gen_tok ?_; intro tk9z)
  k_with "WiPost" => (dsimp only [WiPost])
  k_with "mine bool" => (simp only [isLetter, isHex, leS, *, decide_true, decide_false, Bool.not_true, Bool.not_false, Bool.and_true, Bool.true_and, Bool.and_false, Bool.false_and, Bool.or_true, Bool.true_or, Bool.or_false, Bool.false_or, not_true_eq_false, not_false_eq_true])
  k_with "WgPost" => (dsimp only [WgPost])
  k_with "mine steps" => repeat' (first | (k_unfold; (try dsimp only)) | (k_end; wrow_close) | ((fail_if_success (with_reducible show wpAny _ _ (exec (Stmt.While _ _ _ _) _) _ _ _)); (fail_if_success (with_reducible show wpAny _ _ (exec (Stmt.For _ _ _ _ _) _) _ _ _)); walk1) | (dsimp only; walk1) | (leave1; walk_say "STEP leave1"; try dsimp only) | fail "no step")
  k_with "call ref" => (k_here; (with_reducible show wpAny _ _ (call (Value.ref 67) _) _ _ _); k_dflt ((refine' SpecP.use (is_digit_spec _ _ _) ?k1 ?k2 ?k3 ?k4 ?k5 ?k6 ?k7 ?k8 ?_); k_extra "mine pure"))
  k_with "call ref" => (k_here; (with_reducible show wpAny _ _ (call (Value.ref 60) _) _ _ _); k_dflt ((refine' SpecP.use (is_letter_spec _ _ _) ?k1 ?k2 ?k3 ?k4 ?k5 ?k6 ?k7 ?k8 ?_); k_extra "mine pure"))
  k_with "call ref" => (k_here; (with_reducible show wpAny _ _ (call (Value.ref 74) _) _ _ _); k_dflt ((refine' SpecP.use (is_hex_spec _ _ _) ?k1 ?k2 ?k3 ?k4 ?k5 ?k6 ?k7 ?k8 ?_); k_extra "mine pure"))
  k_with "call ref" => (k_here; (with_reducible show wpAny _ _ (call (Value.ref 123) _) _ _ _); k_dflt ((refine' SpecP.use (word_end_spec _ _ _ _ _ (by with_reducible assumption) (by first | with_reducible assumption | omega)) ?k1 ?k2 ?k3 ?k4 ?k5 ?k6 ?k7 ?k8 ?_); k_extra "mine pure"))
  k_with "call ref" => (k_here; (with_reducible show wpAny _ _ (call (Value.ref 130) _) _ _ _); k_dflt ((refine' SpecP.use (digits_end_spec _ _ _ _ _ (by with_reducible assumption) (by first | with_reducible assumption | omega)) ?k1 ?k2 ?k3 ?k4 ?k5 ?k6 ?k7 ?k8 ?_); k_extra "mine pure"))
  k_with "call ref" => (k_here; (with_reducible show wpAny _ _ (call (Value.ref 102) _) _ _ _); k_dflt ((refine' SpecP.use (gap_end_spec _ _ _ _ _ (by with_reducible assumption) (by first | with_reducible assumption | omega)) ?k1 ?k2 ?k3 ?k4 ?k5 ?k6 ?k7 ?k8 ?_); k_extra "mine pure"))
  k_with "call ref" => (k_here; (with_reducible show wpAny _ _ (call (Value.ref 137) _) _ _ _); k_dflt ((refine' SpecP.use (number_end_spec _ _ _ _ _ (by with_reducible assumption) (by first | with_reducible assumption | omega)) ?k1 ?k2 ?k3 ?k4 ?k5 ?k6 ?k7 ?k8 ?_); k_extra "mine pure"))
  k_with "call ref" => (k_here; (with_reducible show wpAny _ _ (call (Value.ref 144) _) _ _ _); k_dflt ((refine' SpecP.use (sign_end_spec _ _ _ _ _ (by with_reducible assumption) (by first | with_reducible assumption | omega) (by first | with_reducible assumption | omega)) ?k1 ?k2 ?k3 ?k4 ?k5 ?k6 ?k7 ?k8 ?_); k_extra "mine pure"))
  k_with "call ref" => (k_here; (with_reducible show wpAny _ _ (call (Value.ref 109) _) _ _ _); k_dflt ((refine' SpecP.use (remark_end_spec _ _ _ _ _ (by with_reducible assumption) (by first | with_reducible assumption | omega)) ?k1 ?k2 ?k3 ?k4 ?k5 ?k6 ?k7 ?k8 ?_); k_extra "mine pure"))
  k_with "mine s1" => ((case k1 => k_asm); (case k2 => k_asm); (case k3 => k_asm); (case k4 => k_asm))
  k_with "mine s2" => ((case k5 => k_asm); (case k6 => first | exact rfl | assumption); (case k7 => ktr_room); (case k8 => ktr_units); intro v9z n9z h9z tk9z F9z N9z R9z; obtain ⟨e9z, e8z⟩ := R9z; subst e9z; (replace e8z := e8z.symm); subst e8z; (try dsimp only); (try k_fold))
  k_with "callWith" => (with_reducible refine callWith_method1 ?_)
  k_with "call builtin:len" => (k_here; (with_reducible show wpAny _ _ (call (Value.builtin "len") [Value.ref _]) _ _ _); k_dflt (refine' len_list ?k1 ?k2 ?_; (case k1 => exact News.isList (by k_asm) (by k_mem)); (case k2 => ((try simp only [List.size_toArray, List.length_append, List.length_cons, List.length_nil]); omega)); k_whole))
  k_with "call builtin:list.append" => (k_here; (with_reducible show wpAny _ _ (call (Value.builtin _) [Value.ref _, _]) _ _ _); k_dflt (refine' append_K ?k1 ?k2 ?k3 ?_ ?z; (case k1 => k_asm); (case k2 => k_asm); (case k3 => k_upd); (case z => ((try simp only [List.size_toArray, List.length_append, List.length_cons, List.length_nil]); rw [sizeLine_eq]; omega)); k_whole); intro h9z F9z N9z; (try k_sweep))
  k_with "binaryOp Add str str" => (k_here; (with_reducible show wpAny _ _ (binaryOp Operator.Add (Value.str _ _) (Value.str _ _)) _ _ _); refine' KOpn.add ?z ?_; (case z => ((have e1 := lenSp); (have e2 := lenEm); omega)); intro t9z k9z l9z)
  k_with "call builtin:str.join" => (k_here; (with_reducible show wpAny _ _ (call (Value.builtin _) [Value.str _ _, Value.ref _]) _ _ _); k_dflt (refine' join_list (News.isList (by k_asm) (by k_mem)) ?k2 ?k3 ?_; (case k2 => assumption); (case k3 => assumption); intro tj9z kj9z))
  trivial
theorem end_row_spec (w : World) (x : Addr) (rest : Led) (S : FS) (news : Led) (hF : FmtAt w x rest S news) (hfit : Fit S) :
    SpecC w 3 242 [.ref x] news (fun v n' => v = .none ∧ FmtAt w x rest (endRowF S) n' ∧ topA n' = topA news) := by
  obtain ⟨f1, f2, f3, f6, f4, f5⟩ := hfit
  by_cases hpc : S.pieces = []
  · have hS : endRowF S = { S with rows := S.rows, pieces := [], bro := false, before := none, una := false, sta := false } := by unfold endRowF; rw [if_pos hpc, if_pos hpc]
    rw [hS]
    obtain ⟨dx, ra, pa, ba, bx, bd, kt, kb, ar, ap, nr, np, nb, bef, td, to, ta, tw, tb, ts, bl, rfl, hr, hp, hb, hl, hdis⟩ := hF
    obtain ⟨n1, n2, n3, n4, n5, n6, n7, n8, n9, n10, n11, n12, n13, n14, n15, n16, n17, n18, n19, n20, n21, a1, a2, a3, a4, a5, a6, a7⟩ := hdis
    unfold SpecC
    intro mean mg mb dp un gd cn cs a ccd cl outer A₀ base h₀ L m s Q E hB9 hF9 hX9 hN9 hT9 hk hd hu hret
    refine wpAny_call ?_
    k_dflt (refine' code_def (binds := [(Str.ofString "self", Value.ref x)]) ?k1 ?k2 ?k3 ?k4 ?k5 ?kA ?kF ?kK ?k6 ?k7 ?k8 ?k9 ?kB ?_ ?c2 ?c3 ?c4 ?c5; (case kA => exact rfl); (case kF => exact rfl); (case kK => assumption); (case k1 => k_asm); (case k2 => k_asm); (case k3 => k_asm); (case k4 => k_asm); (case k5 => k_asm); (case k6 => k_is); (case k7 => k_is); (case k8 => ktr_room); (case k9 => exact BindsTo.of_eq rfl); (case c5 => decide); (case kB => exact locs rfl); (case c2 => exact rfl); (case c3 => exact rfl); (case c4 => exact rfl); k_whole; intro g' L' h' FG' F' N' B' X' T'; (try dsimp only))
    refine gen_tok ?_
    intro tk0
    refine noE ?_
    generalize hrst : lowL w bl S.low ++ rest = rst at *
    have z2 : ap.size = 0 := by rw [strs_size hp, hpc]; rfl
    k_steps
    subst hrst
    refine' hret _ _ _ _ ?zF ?zN ⟨rfl, FmtAt.intro (bl := bl) ?zr ?zp ?zb ?zl ?zd, ?zt⟩
    case zF => k_asm
    case zN => k_asm
    case zr => exact hr
    case zp => exact hpc ▸ hp
    case zb => exact rfl
    case zl => exact hl
    case zd => (constructor <;> first | with_reducible assumption | exact Ne.symm (by with_reducible assumption) | omega | exact (fun p hp => Nat.ne_of_lt (tb_ltOf (by assumption) p hp)))
    case zt => rfl
  · have hS : endRowF S = { S with rows := S.rows ++ [rowText S], pieces := [], arm := false, bro := false, before := none, una := false, sta := false } := by unfold endRowF; rw [if_neg hpc, if_neg hpc]
    rw [hS]
    obtain ⟨dx, ra, pa, ba, bx, bd, kt, kb, ar, ap, nr, np, nb, bef, td, to, ta, tw, tb, ts, bl, rfl, hr, hp, hb, hl, hdis⟩ := hF
    obtain ⟨n1, n2, n3, n4, n5, n6, n7, n8, n9, n10, n11, n12, n13, n14, n15, n16, n17, n18, n19, n20, n21, a1, a2, a3, a4, a5, a6, a7⟩ := hdis
    unfold SpecC
    intro mean mg mb dp un gd cn cs a ccd cl outer A₀ base h₀ L m s Q E hB9 hF9 hX9 hN9 hT9 hk hd hu hret
    refine wpAny_call ?_
    k_dflt (refine' code_def (binds := [(Str.ofString "self", Value.ref x)]) ?k1 ?k2 ?k3 ?k4 ?k5 ?kA ?kF ?kK ?k6 ?k7 ?k8 ?k9 ?kB ?_ ?c2 ?c3 ?c4 ?c5; (case kA => exact rfl); (case kF => exact rfl); (case kK => assumption); (case k1 => k_asm); (case k2 => k_asm); (case k3 => k_asm); (case k4 => k_asm); (case k5 => k_asm); (case k6 => k_is); (case k7 => k_is); (case k8 => ktr_room); (case k9 => exact BindsTo.of_eq rfl); (case c5 => decide); (case kB => exact locs rfl); (case c2 => exact rfl); (case c3 => exact rfl); (case c4 => exact rfl); k_whole; intro g' L' h' FG' F' N' B' X' T'; (try dsimp only))
    refine gen_tok ?_
    intro tk0
    refine noE ?_
    generalize hrst : lowL w bl S.low ++ rest = rst at *
    have z1 := strs_size hr
    have z2 : 0 < ap.size := by rw [strs_size hp]; exact List.length_pos_iff.mpr hpc
    have z3 := strs_size hp
    k_steps
    subst hrst
    rename (x < _ ∧ _) => hlt
    obtain ⟨q1, q2, q3, q4, q5, q6, q7, q8⟩ := hlt
    refine' hret _ _ _ _ ?zF ?zN ⟨rfl, FmtAt.intro (bl := bl) ?zr ?zp ?zb ?zl ?zd, ?zt⟩
    case zF => k_asm
    case zN => exact news_mv3 (by k_asm)
    case zr => exact strs_push hr _ _
    case zp => exact strs_nil
    case zb => exact rfl
    case zl => exact hl
    case zd => (constructor <;> first | with_reducible assumption | exact Ne.symm (by with_reducible assumption) | omega | exact (fun p hp => Nat.ne_of_lt (tb_ltOf (by assumption) p hp)))
    case zt => rfl
theorem lnsFmt20 : True := by
  w_top off
  k_with_none
  k_with "mine pure" => ((case k1 => k_asm); (case k2 => k_asm); (case k3 => k_asm); (case k4 => k_asm); (case k5 => k_asm); (case k6 => first | exact rfl | assumption); (case k7 => ktr_room); (case k8 => ktr_units); intro t9z h9z tk9z F9z N9z; (try dsimp only); (try k_fold))
  k_with "execs cons" => (k_here; (with_reducible show wpAny _ _ _ _ _ (Shared.mk _ _ _ (_ + _) _)); refine gen_tok ?_; intro tk9z)
  k_with "execs nil" => (k_here; (with_reducible show wpAny _ _ _ _ _ (Shared.mk _ _ _ (_ + _) _)); refine gen_tok ?_; intro tk9z)
  k_with "WiPost" => (dsimp only [WiPost])
  k_with "mine bool" => (simp only [isLetter, isHex, leS, *, decide_true, decide_false, Bool.not_true, Bool.not_false, Bool.and_true, Bool.true_and, Bool.and_false, Bool.false_and, Bool.or_true, Bool.true_or, Bool.or_false, Bool.false_or, not_true_eq_false, not_false_eq_true])
  k_with "WgPost" => (dsimp only [WgPost])
  k_with "mine steps" => repeat' (first | (k_unfold; (try dsimp only)) | (k_end; wrow_close) | ((fail_if_success (with_reducible show wpAny _ _ (exec (Stmt.While _ _ _ _) _) _ _ _)); (fail_if_success (with_reducible show wpAny _ _ (exec (Stmt.For _ _ _ _ _) _) _ _ _)); walk1) | (dsimp only; walk1) | (leave1; walk_say "STEP leave1"; try dsimp only) | fail "no step")
  k_with "call ref" => (k_here; (with_reducible show wpAny _ _ (call (Value.ref 67) _) _ _ _); k_dflt ((refine' SpecP.use (is_digit_spec _ _ _) ?k1 ?k2 ?k3 ?k4 ?k5 ?k6 ?k7 ?k8 ?_); k_extra "mine pure"))
  k_with "call ref" => (k_here; (with_reducible show wpAny _ _ (call (Value.ref 60) _) _ _ _); k_dflt ((refine' SpecP.use (is_letter_spec _ _ _) ?k1 ?k2 ?k3 ?k4 ?k5 ?k6 ?k7 ?k8 ?_); k_extra "mine pure"))
  k_with "call ref" => (k_here; (with_reducible show wpAny _ _ (call (Value.ref 74) _) _ _ _); k_dflt ((refine' SpecP.use (is_hex_spec _ _ _) ?k1 ?k2 ?k3 ?k4 ?k5 ?k6 ?k7 ?k8 ?_); k_extra "mine pure"))
  k_with "call ref" => (k_here; (with_reducible show wpAny _ _ (call (Value.ref 123) _) _ _ _); k_dflt ((refine' SpecP.use (word_end_spec _ _ _ _ _ (by with_reducible assumption) (by first | with_reducible assumption | omega)) ?k1 ?k2 ?k3 ?k4 ?k5 ?k6 ?k7 ?k8 ?_); k_extra "mine pure"))
  k_with "call ref" => (k_here; (with_reducible show wpAny _ _ (call (Value.ref 130) _) _ _ _); k_dflt ((refine' SpecP.use (digits_end_spec _ _ _ _ _ (by with_reducible assumption) (by first | with_reducible assumption | omega)) ?k1 ?k2 ?k3 ?k4 ?k5 ?k6 ?k7 ?k8 ?_); k_extra "mine pure"))
  k_with "call ref" => (k_here; (with_reducible show wpAny _ _ (call (Value.ref 102) _) _ _ _); k_dflt ((refine' SpecP.use (gap_end_spec _ _ _ _ _ (by with_reducible assumption) (by first | with_reducible assumption | omega)) ?k1 ?k2 ?k3 ?k4 ?k5 ?k6 ?k7 ?k8 ?_); k_extra "mine pure"))
  k_with "call ref" => (k_here; (with_reducible show wpAny _ _ (call (Value.ref 137) _) _ _ _); k_dflt ((refine' SpecP.use (number_end_spec _ _ _ _ _ (by with_reducible assumption) (by first | with_reducible assumption | omega)) ?k1 ?k2 ?k3 ?k4 ?k5 ?k6 ?k7 ?k8 ?_); k_extra "mine pure"))
  k_with "call ref" => (k_here; (with_reducible show wpAny _ _ (call (Value.ref 144) _) _ _ _); k_dflt ((refine' SpecP.use (sign_end_spec _ _ _ _ _ (by with_reducible assumption) (by first | with_reducible assumption | omega) (by first | with_reducible assumption | omega)) ?k1 ?k2 ?k3 ?k4 ?k5 ?k6 ?k7 ?k8 ?_); k_extra "mine pure"))
  k_with "call ref" => (k_here; (with_reducible show wpAny _ _ (call (Value.ref 109) _) _ _ _); k_dflt ((refine' SpecP.use (remark_end_spec _ _ _ _ _ (by with_reducible assumption) (by first | with_reducible assumption | omega)) ?k1 ?k2 ?k3 ?k4 ?k5 ?k6 ?k7 ?k8 ?_); k_extra "mine pure"))
  k_with "mine s1" => ((case k1 => k_asm); (case k2 => k_asm); (case k3 => k_asm); (case k4 => k_asm))
  k_with "mine s2" => ((case k5 => k_asm); (case k6 => first | exact rfl | assumption); (case k7 => ktr_room); (case k8 => ktr_units); intro v9z n9z h9z tk9z F9z N9z R9z; obtain ⟨e9z, e8z⟩ := R9z; subst e9z; (replace e8z := e8z.symm); subst e8z; (try dsimp only); (try k_fold))
  k_with "callWith" => (with_reducible refine callWith_method1 ?_)
  k_with "call builtin:len" => (k_here; (with_reducible show wpAny _ _ (call (Value.builtin "len") [Value.ref _]) _ _ _); k_dflt (refine' len_list ?k1 ?k2 ?_; (case k1 => exact News.isList (by k_asm) (by k_mem)); (case k2 => ((try simp only [List.size_toArray, List.length_append, List.length_cons, List.length_nil]); omega)); k_whole))
  k_with "call builtin:list.append" => (k_here; (with_reducible show wpAny _ _ (call (Value.builtin _) [Value.ref _, _]) _ _ _); k_dflt (refine' append_K ?k1 ?k2 ?k3 ?_ ?z; (case k1 => k_asm); (case k2 => k_asm); (case k3 => k_upd); (case z => ((try simp only [List.size_toArray, List.length_append, List.length_cons, List.length_nil]); rw [sizeLine_eq]; omega)); k_whole); intro h9z F9z N9z; (try k_sweep))
  k_with "binaryOp Add str str" => (k_here; (with_reducible show wpAny _ _ (binaryOp Operator.Add (Value.str _ _) (Value.str _ _)) _ _ _); refine' KOpn.add ?z ?_; (case z => ((have e1 := lenSp); (have e2 := lenEm); omega)); intro t9z k9z l9z)
  k_with "call builtin:str.join" => (k_here; (with_reducible show wpAny _ _ (call (Value.builtin _) [Value.str _ _, Value.ref _]) _ _ _); k_dflt (refine' join_list (News.isList (by k_asm) (by k_mem)) ?k2 ?k3 ?_; (case k2 => assumption); (case k3 => assumption); intro tj9z kj9z))
  trivial
theorem is_unary_spec (w : World) (bef : Value) (t : Str) (tt : Tok) (h1 : (t != Str.ofString "+") = true) (h2 : (t != Str.ofString "-") = true) :
    SpecP w 1 193 [bef, .str t tt] (fun _ => .bool false) := by
  unfold SpecP
  intro mean mg mb dp un gd cn cs a ccd cl outer A₀ base h₀ L m s news Q E hB9 hF9 hX9 hN9 hT9 hk hd hu hret
  refine wpAny_call ?_
  k_dflt (refine' code_def (binds := [(Str.ofString "before", bef), (Str.ofString "sign", Value.str t tt)]) ?k1 ?k2 ?k3 ?k4 ?k5 ?kA ?kF ?kK ?k6 ?k7 ?k8 ?k9 ?kB ?_ ?c2 ?c3 ?c4 ?c5; (case kA => exact rfl); (case kF => exact rfl); (case kK => assumption); (case k1 => k_asm); (case k2 => k_asm); (case k3 => k_asm); (case k4 => k_asm); (case k5 => k_asm); (case k6 => k_is); (case k7 => k_is); (case k8 => ktr_room); (case k9 => exact BindsTo.of_eq rfl); (case c5 => decide); (case kB => exact locs rfl); (case c2 => exact rfl); (case c3 => exact rfl); (case c4 => exact rfl); k_whole; intro g' L' h' FG' F' N' B' X' T'; (try dsimp only))
  refine gen_tok ?_
  intro tk0
  refine noE ?_
  k_steps
  exact ret_boolP hret rfl (by k_asm) (by k_asm)
noncomputable def wjF (bk bt it : Str) : Bool :=
  if ((it == Str.ofString ".") || (it == Str.ofString "..")) = true then
    ((bt == Str.ofString ".") || ((bk == Str.ofString "number") && ((it == Str.ofString ".") || (Txt.item bt (-1) == Str.ofString "."))))
  else false
theorem would_join_spec (w : World) (b i : Itm) (news : Led) (hb1 : (b.ix, instObj 91 b.dx) ∈ news) (hb2 : (b.dx, itmD w b) ∈ news) (hi1 : (i.ix, instObj 91 i.dx) ∈ news) (hi2 : (i.dx, itmD w i) ∈ news)
    (hl1 : 1 ≤ b.text.length) (hl2 : b.text.length ≤ 1000) (hl3 : 1 ≤ i.text.length) (hl4 : i.text.length ≤ 1000) (hst : (Txt.item i.text 0 == Str.ofString "*") = false) :
    SpecC w 1 200 [.ref b.ix, .ref i.ix] news (fun v n' => v = .bool (wjF b.kind b.text i.text) ∧ n' = news) := by
  unfold SpecC
  intro mean mg mb dp un gd cn cs a ccd cl outer A₀ base h₀ L m s Q E hB9 hF9 hX9 hN9 hT9 hk hd hu hret
  refine wpAny_call ?_
  k_dflt (refine' code_def (binds := [(Str.ofString "before", Value.ref b.ix), (Str.ofString "item", Value.ref i.ix)]) ?k1 ?k2 ?k3 ?k4 ?k5 ?kA ?kF ?kK ?k6 ?k7 ?k8 ?k9 ?kB ?_ ?c2 ?c3 ?c4 ?c5; (case kA => exact rfl); (case kF => exact rfl); (case kK => assumption); (case k1 => k_asm); (case k2 => k_asm); (case k3 => k_asm); (case k4 => k_asm); (case k5 => k_asm); (case k6 => k_is); (case k7 => k_is); (case k8 => ktr_room); (case k9 => exact BindsTo.of_eq rfl); (case c5 => decide); (case kB => exact locs rfl); (case c2 => exact rfl); (case c3 => exact rfl); (case c4 => exact rfl); k_whole; intro g' L' h' FG' F' N' B' X' T'; (try dsimp only))
  refine gen_tok ?_
  intro tk0
  refine noE ?_
  refine' cut_if (h₀ := g') (L := L') True (fun y => List.lookup y [(Str.ofString "before", Value.ref b.ix), (Str.ofString "item", Value.ref i.ix)].reverse) news ?za ?zb
  case za =>
    k_steps
    all_goals exact cutP_next trivial (by k_asm) (by k_asm)
  case zb =>
    intro zh zt _ zF zN
    k_steps
    all_goals (refine hret _ _ _ _ (by k_asm) (by first | k_asm | (refine cb_drop (by assumption) (fun p hp => ?_); repeat (first | exact hp | (refine List.mem_cons_of_mem _ ?_)))) ⟨congrArg Value.bool ?_, rfl⟩)
    all_goals simp only [wjF, *, if_true, if_false, Bool.or_true, Bool.true_or, Bool.or_false, Bool.false_or, Bool.and_true, Bool.true_and, Bool.and_false, Bool.false_and, Bool.not_true, Bool.not_false, Bool.false_eq_true, decide_true, decide_false]
noncomputable def icF (bk bt ik it : Str) : Bool :=
  if (([Str.ofString ";", Str.ofString ",", Str.ofString ")", Str.ofString "]", Str.ofString "}", Str.ofString ".", Str.ofString "^", Str.ofString "..", Str.ofString ":"].any fun x => x == it) && (ik == Str.ofString "sign")) = true then true
  else if (([Str.ofString "(", Str.ofString "[", Str.ofString "{", Str.ofString ".", Str.ofString "~", Str.ofString ".."].any fun x => x == bt) && (bk == Str.ofString "sign")) = true then true
  else if ([Str.ofString "(", Str.ofString "["].any fun x => x == it) = true then ((bk == Str.ofString "name") || ([Str.ofString ")", Str.ofString "]", Str.ofString "^"].any fun x => x == bt))
  else false
theorem is_close_spec (w : World) (b i : Itm) (news : Led) (hb1 : (b.ix, instObj 91 b.dx) ∈ news) (hb2 : (b.dx, itmD w b) ∈ news) (hi1 : (i.ix, instObj 91 i.dx) ∈ news) (hi2 : (i.dx, itmD w i) ∈ news) :
    SpecC w 1 207 [.ref b.ix, .ref i.ix] news (fun v n' => v = .bool (icF b.kind b.text i.kind i.text) ∧ n' = news) := by
  unfold SpecC
  intro mean mg mb dp un gd cn cs a ccd cl outer A₀ base h₀ L m s Q E hB9 hF9 hX9 hN9 hT9 hk hd hu hret
  refine wpAny_call ?_
  k_dflt (refine' code_def (binds := [(Str.ofString "before", Value.ref b.ix), (Str.ofString "item", Value.ref i.ix)]) ?k1 ?k2 ?k3 ?k4 ?k5 ?kA ?kF ?kK ?k6 ?k7 ?k8 ?k9 ?kB ?_ ?c2 ?c3 ?c4 ?c5; (case kA => exact rfl); (case kF => exact rfl); (case kK => assumption); (case k1 => k_asm); (case k2 => k_asm); (case k3 => k_asm); (case k4 => k_asm); (case k5 => k_asm); (case k6 => k_is); (case k7 => k_is); (case k8 => ktr_room); (case k9 => exact BindsTo.of_eq rfl); (case c5 => decide); (case kB => exact locs rfl); (case c2 => exact rfl); (case c3 => exact rfl); (case c4 => exact rfl); k_whole; intro g' L' h' FG' F' N' B' X' T'; (try dsimp only))
  refine gen_tok ?_
  intro tk0
  refine noE ?_
  refine' cut_if (h₀ := g') (L := L') ((([Str.ofString ";", Str.ofString ",", Str.ofString ")", Str.ofString "]", Str.ofString "}", Str.ofString ".", Str.ofString "^", Str.ofString "..", Str.ofString ":"].any fun x => x == i.text) && (i.kind == Str.ofString "sign")) = false) (fun y => List.lookup y [(Str.ofString "before", Value.ref b.ix), (Str.ofString "item", Value.ref i.ix)].reverse) news ?za ?zb
  case za =>
    k_steps
    all_goals first
      | exact cutP_next (by simp only [*, if_true, if_false, Bool.or_true, Bool.true_or, Bool.or_false, Bool.false_or, Bool.and_true, Bool.true_and, Bool.and_false, Bool.false_and, Bool.not_true, Bool.not_false, Bool.false_eq_true, decide_true, decide_false]) (by k_asm) (by first | k_asm | (refine cb_drop (by assumption) (fun p hp => ?_); repeat (first | exact hp | (refine List.mem_cons_of_mem _ ?_))))
      | (refine cutP_ret ?_
         k_steps
         refine hret _ _ _ _ (by k_asm) (by first | k_asm | (refine cb_drop (by assumption) (fun p hp => ?_); repeat (first | exact hp | (refine List.mem_cons_of_mem _ ?_)))) ⟨congrArg Value.bool ?_, rfl⟩
         simp only [icF, *, if_true, if_false, Bool.or_true, Bool.true_or, Bool.or_false, Bool.false_or, Bool.and_true, Bool.true_and, Bool.and_false, Bool.false_and, Bool.not_true, Bool.not_false, Bool.false_eq_true, decide_true, decide_false])
  case zb =>
    intro zh zt zP zF zN
    refine' cut_if (h₀ := g') (L := L') ((([Str.ofString "(", Str.ofString "[", Str.ofString "{", Str.ofString ".", Str.ofString "~", Str.ofString ".."].any fun x => x == b.text) && (b.kind == Str.ofString "sign")) = false) (fun y => List.lookup y [(Str.ofString "before", Value.ref b.ix), (Str.ofString "item", Value.ref i.ix)].reverse) news ?zc ?zd
    case zc =>
      k_steps
      all_goals first
        | exact cutP_next (by simp only [*, if_true, if_false, Bool.or_true, Bool.true_or, Bool.or_false, Bool.false_or, Bool.and_true, Bool.true_and, Bool.and_false, Bool.false_and, Bool.not_true, Bool.not_false, Bool.false_eq_true, decide_true, decide_false]) (by k_asm) (by first | k_asm | (refine cb_drop (by assumption) (fun p hp => ?_); repeat (first | exact hp | (refine List.mem_cons_of_mem _ ?_))))
        | (refine cutP_ret ?_
           k_steps
           refine hret _ _ _ _ (by k_asm) (by first | k_asm | (refine cb_drop (by assumption) (fun p hp => ?_); repeat (first | exact hp | (refine List.mem_cons_of_mem _ ?_)))) ⟨congrArg Value.bool ?_, rfl⟩
           simp only [icF, *, if_true, if_false, Bool.or_true, Bool.true_or, Bool.or_false, Bool.false_or, Bool.and_true, Bool.true_and, Bool.and_false, Bool.false_and, Bool.not_true, Bool.not_false, Bool.false_eq_true, decide_true, decide_false])
    case zd =>
      intro yh yt yP yF yN
      k_steps
      all_goals (refine hret _ _ _ _ (by k_asm) (by first | k_asm | (refine cb_drop (by assumption) (fun p hp => ?_); repeat (first | exact hp | (refine List.mem_cons_of_mem _ ?_)))) ⟨congrArg Value.bool ?_, rfl⟩)
      all_goals simp only [icF, *, if_true, if_false, Bool.or_true, Bool.true_or, Bool.or_false, Bool.false_or, Bool.and_true, Bool.true_and, Bool.and_false, Bool.false_and, Bool.not_true, Bool.not_false, Bool.false_eq_true, decide_true, decide_false]
theorem lst_end {prog : Program} {w : World} {A : Around} {E : Value → Shared → Prop} {s : Shared} {value slice : PySem.Expr} {l : Addr} {vi : List Value} {v : Value} {u : Tok} {Q : Value → Shared → Prop} (hl : s.heap.IsList l (vi ++ [v]).toArray) (h : Q v s)
    (hs : subscripted slice false (.ref l) (.int (-1) u) = operate [.ref l, .int (-1) u] (getItem (.ref l) (.int (-1) u)) := by with_unfolding_all rfl) :
    wpAny (model prog w) A (subscriptTail value slice (.ref l) (.int (-1) u)) Q E s := by
  have hx : (vi ++ [v]).toArray[((-1 : Int) + ((vi ++ [v]).toArray.size : Int)).toNat]? = some v := by
    have e : ((-1 : Int) + ((vi ++ [v]).toArray.size : Int)).toNat = vi.length := by
      simp only [List.size_toArray, List.length_append, List.length_singleton]
      omega
    rw [e, List.getElem?_toArray, List.getElem?_append_right (Nat.le_refl _), Nat.sub_self]
    rfl
  have h1 : -(((vi ++ [v]).toArray.size : Nat) : Int) ≤ -1 := by
    simp only [List.size_toArray, List.length_append, List.length_singleton]
    omega
  exact tail_any hl.typeIs slot_list_getitem.lookup (wpAny_getItem_list_neg hl (by decide) h1 (by decide) hx h) hs
theorem lnsFmt30 : True := by
  w_top off
  k_with_none
  k_with "mine pure" => ((case k1 => k_asm); (case k2 => k_asm); (case k3 => k_asm); (case k4 => k_asm); (case k5 => k_asm); (case k6 => first | exact rfl | assumption); (case k7 => ktr_room); (case k8 => ktr_units); intro t9z h9z tk9z F9z N9z; (try dsimp only); (try k_fold))
  k_with "execs cons" => (k_here; (with_reducible show wpAny _ _ _ _ _ (Shared.mk _ _ _ (_ + _) _)); refine gen_tok ?_; intro tk9z)
  k_with "execs nil" => (k_here; (with_reducible show wpAny _ _ _ _ _ (Shared.mk _ _ _ (_ + _) _)); refine gen_tok ?_; intro tk9z)
  k_with "WiPost" => (dsimp only [WiPost])
  k_with "mine bool" => (simp only [isLetter, isHex, leS, *, decide_true, decide_false, Bool.not_true, Bool.not_false, Bool.and_true, Bool.true_and, Bool.and_false, Bool.false_and, Bool.or_true, Bool.true_or, Bool.or_false, Bool.false_or, not_true_eq_false, not_false_eq_true])
  k_with "WgPost" => (dsimp only [WgPost])
  k_with "mine steps" => repeat' (first | (k_unfold; (try dsimp only)) | (k_end; wrow_close) | ((fail_if_success (with_reducible show wpAny _ _ (exec (Stmt.While _ _ _ _) _) _ _ _)); (fail_if_success (with_reducible show wpAny _ _ (exec (Stmt.For _ _ _ _ _) _) _ _ _)); walk1) | (dsimp only; walk1) | (leave1; walk_say "STEP leave1"; try dsimp only) | fail "no step")
  k_with "call ref" => (k_here; (with_reducible show wpAny _ _ (call (Value.ref 67) _) _ _ _); k_dflt ((refine' SpecP.use (is_digit_spec _ _ _) ?k1 ?k2 ?k3 ?k4 ?k5 ?k6 ?k7 ?k8 ?_); k_extra "mine pure"))
  k_with "call ref" => (k_here; (with_reducible show wpAny _ _ (call (Value.ref 60) _) _ _ _); k_dflt ((refine' SpecP.use (is_letter_spec _ _ _) ?k1 ?k2 ?k3 ?k4 ?k5 ?k6 ?k7 ?k8 ?_); k_extra "mine pure"))
  k_with "call ref" => (k_here; (with_reducible show wpAny _ _ (call (Value.ref 74) _) _ _ _); k_dflt ((refine' SpecP.use (is_hex_spec _ _ _) ?k1 ?k2 ?k3 ?k4 ?k5 ?k6 ?k7 ?k8 ?_); k_extra "mine pure"))
  k_with "call ref" => (k_here; (with_reducible show wpAny _ _ (call (Value.ref 123) _) _ _ _); k_dflt ((refine' SpecP.use (word_end_spec _ _ _ _ _ (by with_reducible assumption) (by first | with_reducible assumption | omega)) ?k1 ?k2 ?k3 ?k4 ?k5 ?k6 ?k7 ?k8 ?_); k_extra "mine pure"))
  k_with "call ref" => (k_here; (with_reducible show wpAny _ _ (call (Value.ref 130) _) _ _ _); k_dflt ((refine' SpecP.use (digits_end_spec _ _ _ _ _ (by with_reducible assumption) (by first | with_reducible assumption | omega)) ?k1 ?k2 ?k3 ?k4 ?k5 ?k6 ?k7 ?k8 ?_); k_extra "mine pure"))
  k_with "call ref" => (k_here; (with_reducible show wpAny _ _ (call (Value.ref 102) _) _ _ _); k_dflt ((refine' SpecP.use (gap_end_spec _ _ _ _ _ (by with_reducible assumption) (by first | with_reducible assumption | omega)) ?k1 ?k2 ?k3 ?k4 ?k5 ?k6 ?k7 ?k8 ?_); k_extra "mine pure"))
  k_with "call ref" => (k_here; (with_reducible show wpAny _ _ (call (Value.ref 137) _) _ _ _); k_dflt ((refine' SpecP.use (number_end_spec _ _ _ _ _ (by with_reducible assumption) (by first | with_reducible assumption | omega)) ?k1 ?k2 ?k3 ?k4 ?k5 ?k6 ?k7 ?k8 ?_); k_extra "mine pure"))
  k_with "call ref" => (k_here; (with_reducible show wpAny _ _ (call (Value.ref 144) _) _ _ _); k_dflt ((refine' SpecP.use (sign_end_spec _ _ _ _ _ (by with_reducible assumption) (by first | with_reducible assumption | omega) (by first | with_reducible assumption | omega)) ?k1 ?k2 ?k3 ?k4 ?k5 ?k6 ?k7 ?k8 ?_); k_extra "mine pure"))
  k_with "call ref" => (k_here; (with_reducible show wpAny _ _ (call (Value.ref 109) _) _ _ _); k_dflt ((refine' SpecP.use (remark_end_spec _ _ _ _ _ (by with_reducible assumption) (by first | with_reducible assumption | omega)) ?k1 ?k2 ?k3 ?k4 ?k5 ?k6 ?k7 ?k8 ?_); k_extra "mine pure"))
  k_with "mine s1" => ((case k1 => k_asm); (case k2 => k_asm); (case k3 => k_asm); (case k4 => k_asm))
  k_with "mine s2" => ((case k5 => k_asm); (case k6 => first | exact rfl | assumption); (case k7 => ktr_room); (case k8 => ktr_units); intro v9z n9z h9z tk9z F9z N9z R9z; obtain ⟨e9z, e8z⟩ := R9z; subst e9z; (replace e8z := e8z.symm); subst e8z; (try dsimp only); (try k_fold))
  k_with "callWith" => (with_reducible refine callWith_method1 ?_)
  k_with "call builtin:len" => (k_here; (with_reducible show wpAny _ _ (call (Value.builtin "len") [Value.ref _]) _ _ _); k_dflt (refine' len_list ?k1 ?k2 ?_; (case k1 => exact News.isList (by k_asm) (by k_mem)); (case k2 => ((try simp only [List.size_toArray, List.length_append, List.length_cons, List.length_nil]); omega)); k_whole))
  k_with "call builtin:list.append" => (k_here; (with_reducible show wpAny _ _ (call (Value.builtin _) [Value.ref _, _]) _ _ _); k_dflt (refine' append_K ?k1 ?k2 ?k3 ?_ ?z; (case k1 => k_asm); (case k2 => k_asm); (case k3 => k_upd); (case z => ((try simp only [List.size_toArray, List.length_append, List.length_cons, List.length_nil]); rw [sizeLine_eq]; omega)); k_whole); intro h9z F9z N9z; (try k_sweep))
  k_with "binaryOp Add str str" => (k_here; (with_reducible show wpAny _ _ (binaryOp Operator.Add (Value.str _ _) (Value.str _ _)) _ _ _); refine' KOpn.add ?z ?_; (case z => ((have e1 := lenSp); (have e2 := lenEm); omega)); intro t9z k9z l9z)
  k_with "call builtin:str.join" => (k_here; (with_reducible show wpAny _ _ (call (Value.builtin _) [Value.str _ _, Value.ref _]) _ _ _); k_dflt (refine' join_list (News.isList (by k_asm) (by k_mem)) ?k2 ?k3 ?_; (case k2 => assumption); (case k3 => assumption); intro tj9z kj9z))
  k_with "subscriptTail" => (k_here; (with_reducible show wpAny _ _ (subscriptTail _ _ (Value.ref _) (Value.int (-1) _)) _ _ _); k_dflt (refine' lst_end ?zl ?_; (case zl => exact News.isList (by k_asm) (by k_mem))))
  trivial
theorem top_spec (w : World) {x dx ba bx : Addr} {kt : Nat → Tok} {ra pa : Addr} {bef : Value} {dep ob arr : Int} {td to ta : Tok} {nam hea fie bop una sta bro arm : Bool} {nb : Nat} {lr : List Value} {news : Led} (m1 : (x, instObj 357 dx) ∈ news)
    (m2 : (dx, fmtO w kt ra pa ba bef dep td ob to arr ta nam hea fie bop una sta bro arm) ∈ news) (m3 : (ba, listOf (lr ++ [Value.ref bx]).toArray nb) ∈ news) :
    SpecC w 1 228 [.ref x] news (fun v n' => v = .ref bx ∧ n' = news) := by
  unfold SpecC
  intro mean mg mb dp un gd cn cs a ccd cl outer A₀ base h₀ L m s Q E hB9 hF9 hX9 hN9 hT9 hk hd hu hret
  refine wpAny_call ?_
  k_dflt (refine' code_def (binds := [(Str.ofString "self", Value.ref x)]) ?k1 ?k2 ?k3 ?k4 ?k5 ?kA ?kF ?kK ?k6 ?k7 ?k8 ?k9 ?kB ?_ ?c2 ?c3 ?c4 ?c5; (case kA => exact rfl); (case kF => exact rfl); (case kK => assumption); (case k1 => k_asm); (case k2 => k_asm); (case k3 => k_asm); (case k4 => k_asm); (case k5 => k_asm); (case k6 => k_is); (case k7 => k_is); (case k8 => ktr_room); (case k9 => exact BindsTo.of_eq rfl); (case c5 => decide); (case kB => exact locs rfl); (case c2 => exact rfl); (case c3 => exact rfl); (case c4 => exact rfl); k_whole; intro g' L' h' FG' F' N' B' X' T'; (try dsimp only))
  refine gen_tok ?_
  intro tk0
  refine noE ?_
  k_steps
  refine' hret _ _ _ _ ?zF ?zN ⟨rfl, rfl⟩
  case zF => k_asm
  case zN => k_asm
theorem lnsFmt31 : True := by
  k_with "call ref" => (k_here; (with_reducible show wpAny _ _ (call (Value.ref 228) _) _ _ _); k_dflt ((refine' SpecC.use (top_spec _ ?m1 ?m2 ?m3) ?k1 ?k2 ?k3 ?k4 ?k5 ?k6 ?k7 ?k8 ?_); k_extra "mine s1"; (case m1 => k_mem); (case m2 => k_mem); (case m3 => k_mem); k_extra "mine s2"))
  trivial
inductive UD (wo : Str) (bod : Bool) (sec : Str) (bas : Int) : Int → Prop
  | none : wo = Str.ofString "" → UD wo bod sec bas 0
  | modu : wo = Str.ofString "MODULE" → bod = false → sec = Str.ofString "" → UD wo bod sec bas (bas + 1)
  | modt : wo = Str.ofString "MODULE" → bod = false → sec = Str.ofString "TYPE" → UD wo bod sec bas (bas + 2)
  | reco : wo = Str.ofString "RECORD" → UD wo bod sec bas (bas + 1)
theorem usual_depth_spec (w : World) {x dx ba bx bd : Addr} {kt : Nat → Tok} {ra pa : Addr} {bef : Value} {dep ob arr : Int} {td to ta : Tok} {nam hea fie bop una sta bro arm : Bool} {nb : Nat} {lr : List Value} {kb : Nat → Tok} {wo sec : Str} {tw tb ts : Tok} {bas : Int} {bod lab : Bool} {d : Int} {news : Led} (m1 : (x, instObj 357 dx) ∈ news)
    (m2 : (dx, fmtO w kt ra pa ba bef dep td ob to arr ta nam hea fie bop una sta bro arm) ∈ news) (m3 : (ba, listOf (lr ++ [Value.ref bx]).toArray nb) ∈ news)
    (m4 : (bx, instObj 182 bd) ∈ news) (m5 : (bd, blkO w kb wo tw bas tb bod sec ts lab) ∈ news) (hbro : bro = false) (hu : UD wo bod sec bas d) :
    SpecC w 2 235 [.ref x] news (fun v n' => (∃ t, v = .int d t) ∧ n' = news) := by
  subst hbro
  cases hu with
  | none h1 =>
    subst h1
    unfold SpecC
    intro mean mg mb dp un gd cn cs a ccd cl outer A₀ base h₀ L m s Q E hB9 hF9 hX9 hN9 hT9 hk hd hu hret
    refine wpAny_call ?_
    k_dflt (refine' code_def (binds := [(Str.ofString "self", Value.ref x)]) ?k1 ?k2 ?k3 ?k4 ?k5 ?kA ?kF ?kK ?k6 ?k7 ?k8 ?k9 ?kB ?_ ?c2 ?c3 ?c4 ?c5; (case kA => exact rfl); (case kF => exact rfl); (case kK => assumption); (case k1 => k_asm); (case k2 => k_asm); (case k3 => k_asm); (case k4 => k_asm); (case k5 => k_asm); (case k6 => k_is); (case k7 => k_is); (case k8 => ktr_room); (case k9 => exact BindsTo.of_eq rfl); (case c5 => decide); (case kB => exact locs rfl); (case c2 => exact rfl); (case c3 => exact rfl); (case c4 => exact rfl); k_whole; intro g' L' h' FG' F' N' B' X' T'; (try dsimp only))
    refine gen_tok ?_
    intro tk0
    refine noE ?_
    k_steps
    refine' hret _ _ _ _ ?zF ?zN ⟨⟨_, rfl⟩, rfl⟩
    case zF => k_asm
    case zN => first | k_asm | (refine cb_drop (by assumption) (fun p hp => ?_); repeat (first | exact hp | (refine List.mem_cons_of_mem _ ?_)))
  | modu h1 h2 h3 =>
    subst h1 h2 h3
    unfold SpecC
    intro mean mg mb dp un gd cn cs a ccd cl outer A₀ base h₀ L m s Q E hB9 hF9 hX9 hN9 hT9 hk hd hu hret
    refine wpAny_call ?_
    k_dflt (refine' code_def (binds := [(Str.ofString "self", Value.ref x)]) ?k1 ?k2 ?k3 ?k4 ?k5 ?kA ?kF ?kK ?k6 ?k7 ?k8 ?k9 ?kB ?_ ?c2 ?c3 ?c4 ?c5; (case kA => exact rfl); (case kF => exact rfl); (case kK => assumption); (case k1 => k_asm); (case k2 => k_asm); (case k3 => k_asm); (case k4 => k_asm); (case k5 => k_asm); (case k6 => k_is); (case k7 => k_is); (case k8 => ktr_room); (case k9 => exact BindsTo.of_eq rfl); (case c5 => decide); (case kB => exact locs rfl); (case c2 => exact rfl); (case c3 => exact rfl); (case c4 => exact rfl); k_whole; intro g' L' h' FG' F' N' B' X' T'; (try dsimp only))
    refine gen_tok ?_
    intro tk0
    refine noE ?_
    k_steps
    refine' hret _ _ _ _ ?zF ?zN ⟨⟨_, rfl⟩, rfl⟩
    case zF => k_asm
    case zN => first | k_asm | (refine cb_drop (by assumption) (fun p hp => ?_); repeat (first | exact hp | (refine List.mem_cons_of_mem _ ?_)))
  | modt h1 h2 h3 =>
    subst h1 h2 h3
    unfold SpecC
    intro mean mg mb dp un gd cn cs a ccd cl outer A₀ base h₀ L m s Q E hB9 hF9 hX9 hN9 hT9 hk hd hu hret
    refine wpAny_call ?_
    k_dflt (refine' code_def (binds := [(Str.ofString "self", Value.ref x)]) ?k1 ?k2 ?k3 ?k4 ?k5 ?kA ?kF ?kK ?k6 ?k7 ?k8 ?k9 ?kB ?_ ?c2 ?c3 ?c4 ?c5; (case kA => exact rfl); (case kF => exact rfl); (case kK => assumption); (case k1 => k_asm); (case k2 => k_asm); (case k3 => k_asm); (case k4 => k_asm); (case k5 => k_asm); (case k6 => k_is); (case k7 => k_is); (case k8 => ktr_room); (case k9 => exact BindsTo.of_eq rfl); (case c5 => decide); (case kB => exact locs rfl); (case c2 => exact rfl); (case c3 => exact rfl); (case c4 => exact rfl); k_whole; intro g' L' h' FG' F' N' B' X' T'; (try dsimp only))
    refine gen_tok ?_
    intro tk0
    refine noE ?_
    k_steps
    refine' hret _ _ _ _ ?zF ?zN ⟨⟨_, rfl⟩, rfl⟩
    case zF => k_asm
    case zN => first | k_asm | (refine cb_drop (by assumption) (fun p hp => ?_); repeat (first | exact hp | (refine List.mem_cons_of_mem _ ?_)))
  | reco h1 =>
    subst h1
    unfold SpecC
    intro mean mg mb dp un gd cn cs a ccd cl outer A₀ base h₀ L m s Q E hB9 hF9 hX9 hN9 hT9 hk hd hu hret
    refine wpAny_call ?_
    k_dflt (refine' code_def (binds := [(Str.ofString "self", Value.ref x)]) ?k1 ?k2 ?k3 ?k4 ?k5 ?kA ?kF ?kK ?k6 ?k7 ?k8 ?k9 ?kB ?_ ?c2 ?c3 ?c4 ?c5; (case kA => exact rfl); (case kF => exact rfl); (case kK => assumption); (case k1 => k_asm); (case k2 => k_asm); (case k3 => k_asm); (case k4 => k_asm); (case k5 => k_asm); (case k6 => k_is); (case k7 => k_is); (case k8 => ktr_room); (case k9 => exact BindsTo.of_eq rfl); (case c5 => decide); (case kB => exact locs rfl); (case c2 => exact rfl); (case c3 => exact rfl); (case c4 => exact rfl); k_whole; intro g' L' h' FG' F' N' B' X' T'; (try dsimp only))
    refine gen_tok ?_
    intro tk0
    refine noE ?_
    k_steps
    refine' hret _ _ _ _ ?zF ?zN ⟨⟨_, rfl⟩, rfl⟩
    case zF => k_asm
    case zN => first | k_asm | (refine cb_drop (by assumption) (fun p hp => ?_); repeat (first | exact hp | (refine List.mem_cons_of_mem _ ?_)))
theorem lnsFmt32 : True := by
  k_with "call ref" => (k_here; (with_reducible show wpAny _ _ (call (Value.ref 235) _) _ _ _); (refine' SpecC.use (usual_depth_spec _ ?m1 ?m2 ?m3 ?m4 ?m5 ?m6 ?m7) ?k1 ?k2 ?k3 ?k4 ?k5 ?k6 ?k7 ?k8 ?_); (case k1 => k_asm); (case k2 => k_asm); (case k3 => k_asm); (case k4 => k_asm); (case m1 => k_mem); (case m2 => k_mem); (case m3 => k_mem); (case m4 => k_mem); (case m5 => k_mem); (case m6 => first | rfl | assumption); (case m7 => assumption); (case k5 => k_asm); (case k6 => first | exact rfl | assumption); (case k7 => ktr_room); (case k8 => ktr_units); intro v9z n9z h9z tk9z F9z N9z R9z; obtain ⟨⟨et9z, e9z⟩, e8z⟩ := R9z; subst e9z; (replace e8z := e8z.symm); subst e8z; (try dsimp only); (try k_fold))
  trivial
noncomputable def tiF (bk bt ik it : Str) : Bool := if wjF bk bt it = true then false else icF bk bt ik it
theorem lnsFmt33 : True := by
  k_with "call ref" => (k_here; (with_reducible show wpAny _ _ (call (Value.ref 200) _) _ _ _); k_dflt ((refine' SpecC.use (would_join_spec _ _ _ _ ?m1 ?m2 ?m3 ?m4 (by with_reducible assumption) (by with_reducible assumption) (by with_reducible assumption) (by with_reducible assumption) (by with_reducible assumption)) ?k1 ?k2 ?k3 ?k4 ?k5 ?k6 ?k7 ?k8 ?_); k_extra "mine s1"; (case m1 => k_mem); (case m2 => k_mem); (case m3 => k_mem); (case m4 => k_mem); k_extra "mine s2"))
  k_with "call ref" => (k_here; (with_reducible show wpAny _ _ (call (Value.ref 207) _) _ _ _); k_dflt ((refine' SpecC.use (is_close_spec _ _ _ _ ?m1 ?m2 ?m3 ?m4) ?k1 ?k2 ?k3 ?k4 ?k5 ?k6 ?k7 ?k8 ?_); k_extra "mine s1"; (case m1 => k_mem); (case m2 => k_mem); (case m3 => k_mem); (case m4 => k_mem); k_extra "mine s2"))
  trivial
theorem is_tight_spec (w : World) {x dx ba : Addr} {kt : Nat → Tok} {ra pa : Addr} {dep ob arr : Int} {td to ta : Tok} {nam hea fie bop una sta bro arm : Bool} {b i : Itm} {news : Led} (m1 : (x, instObj 357 dx) ∈ news)
    (m2 : (dx, fmtO w kt ra pa ba (.ref b.ix) dep td ob to arr ta nam hea fie bop una sta bro arm) ∈ news)
    (hb1 : (b.ix, instObj 91 b.dx) ∈ news) (hb2 : (b.dx, itmD w b) ∈ news) (hi1 : (i.ix, instObj 91 i.dx) ∈ news) (hi2 : (i.dx, itmD w i) ∈ news)
    (hl1 : 1 ≤ b.text.length) (hl2 : b.text.length ≤ 1000) (hl3 : 1 ≤ i.text.length) (hl4 : i.text.length ≤ 1000) (hst : (Txt.item i.text 0 == Str.ofString "*") = false)
    (hun : una = false) (hsta : sta = false) (hns : (i.text == Str.ofString "*") = false) (hrm : (b.kind == Str.ofString "remark") = false) :
    SpecC w 2 263 [.ref x, .ref i.ix] news (fun v n' => v = .bool (tiF b.kind b.text i.kind i.text) ∧ n' = news) := by
  subst hun hsta
  unfold SpecC
  intro mean mg mb dp un gd cn cs a ccd cl outer A₀ base h₀ L m s Q E hB9 hF9 hX9 hN9 hT9 hk hd hu hret
  refine wpAny_call ?_
  k_dflt (refine' code_def (binds := [(Str.ofString "self", Value.ref x), (Str.ofString "item", Value.ref i.ix)]) ?k1 ?k2 ?k3 ?k4 ?k5 ?kA ?kF ?kK ?k6 ?k7 ?k8 ?k9 ?kB ?_ ?c2 ?c3 ?c4 ?c5; (case kA => exact rfl); (case kF => exact rfl); (case kK => assumption); (case k1 => k_asm); (case k2 => k_asm); (case k3 => k_asm); (case k4 => k_asm); (case k5 => k_asm); (case k6 => k_is); (case k7 => k_is); (case k8 => ktr_room); (case k9 => exact BindsTo.of_eq rfl); (case c5 => decide); (case kB => exact locs rfl); (case c2 => exact rfl); (case c3 => exact rfl); (case c4 => exact rfl); k_whole; intro g' L' h' FG' F' N' B' X' T'; (try dsimp only))
  refine gen_tok ?_
  intro tk0
  refine noE ?_
  k_steps
  all_goals
    refine' hret _ _ _ _ ?zF ?zN ⟨congrArg Value.bool ?ze, rfl⟩
    case zF => k_asm
    case zN => first | k_asm | (refine cb_drop (by assumption) (fun p hp => ?_); repeat (first | exact hp | (refine List.mem_cons_of_mem _ ?_)))
    case ze => simp only [tiF, *, if_true, if_false, Bool.or_true, Bool.true_or, Bool.or_false, Bool.false_or, Bool.and_true, Bool.true_and, Bool.and_false, Bool.false_and, Bool.not_true, Bool.not_false, Bool.false_eq_true, decide_true, decide_false]
noncomputable def twL : Fin 12 → List Nat
  | 0 => [49, 46] | 1 => [50, 46, 53] | 2 => [120] | 3 => [55] | 4 => [46] | 5 => [46, 46] | 6 => [59] | 7 => [40] | 8 => [48, 70, 72]
  | 9 => [51, 46, 69, 50] | 10 => [51, 46, 53, 69, 45, 50] | 11 => [41]
noncomputable def cls : Fin 12 → Nat
  | 0 => 0 | 1 => 0 | 2 => 1 | 3 => 0 | 4 => 2 | 5 => 2 | 6 => 2 | 7 => 2 | 8 => 0 | 9 => 0 | 10 => 0 | 11 => 2
noncomputable def kdT (t : Fin 12) : Str := if cls t = 0 then Str.ofString "number" else if cls t = 1 then Str.ofString "name" else Str.ofString "sign"
noncomputable def tight (b i : Fin 12) : Bool := tiF (kdT b) (sL (twL b)) (kdT i) (sL (twL i))
/-- two tokens that may stand with nothing between -/
noncomputable def tightT : Fin 12 → Fin 12 → Bool := fun b i =>
  match b, i with
  | 4, 4 => false | 4, 5 => false
  | 0, 4 => false | 1, 4 => false | 3, 4 => false | 8, 4 => false | 9, 4 => false | 10, 4 => false
  | 0, 5 => false
  | _, 6 => true | _, 11 => true | _, 4 => true | _, 5 => true
  | 7, _ => true | 4, _ => true | 5, _ => true
  | 2, 7 => true | 11, 7 => true
  | _, _ => false
theorem tight_T : ∀ b i : Fin 12, tight b i = tightT b i := by decide +kernel
/-- the text lays out the tokens, behind the token b -/
inductive Lay : Option (Fin 12) → List (Fin 12) → List Nat → Prop
  | done (b : Option (Fin 12)) : Lay b [] []
  | line (b : Option (Fin 12)) : Lay b [] [10]
  | head (t : Fin 12) (ts : List (Fin 12)) (l : List Nat) : Lay (some t) ts l → Lay none (t :: ts) (twL t ++ l)
  | join (b t : Fin 12) (ts : List (Fin 12)) (l : List Nat) : tightT b t = true → Lay (some t) ts l → Lay (some b) (t :: ts) (twL t ++ l)
  | gap (b : Option (Fin 12)) (c : Nat) (t : Fin 12) (ts : List (Fin 12)) (l : List Nat) : c = 32 ∨ c = 10 → Lay (some t) ts l → Lay b (t :: ts) (c :: (twL t ++ l))
theorem Lay.shape {b : Fin 12} {ts : List (Fin 12)} {l : List Nat} (h : Lay (some b) ts l) : l = [] ∨ (∃ r, l = 10 :: r) ∨ (∃ r, l = 32 :: r) ∨ ∃ u r, tightT b u = true ∧ l = twL u ++ r := by
  cases h with
  | done => exact .inl rfl
  | line => exact .inr (.inl ⟨_, rfl⟩)
  | join _ t ts l ht hl => exact .inr (.inr (.inr ⟨t, l, ht, rfl⟩))
  | gap _ c t ts l hc hl =>
    rcases hc with rfl | rfl
    · exact .inr (.inr (.inl ⟨_, rfl⟩))
    · exact .inr (.inl ⟨_, rfl⟩)
theorem lex_num {c : Nat} {r : List Nat} {n : Nat} (h1 : 48 ≤ c) (h2 : c ≤ 57) (h : numL (c :: r) = n) : lexL (c :: r) = some (Str.ofString "number", n) := by
  subst h
  unfold lexL
  have a1 : prL (c :: r) 40 42 = false := by
    cases r with
    | nil => rfl
    | cons d r => simp only [prL]; rw [decide_eq_false (by omega)]; rfl
  have a2 : leL c = false := by
    unfold leL
    rw [decide_eq_false (p := 97 ≤ c) (by omega), decide_eq_false (p := 65 ≤ c) (by omega)]; rfl
  have a3 : dgL c = true := by
    unfold dgL
    rw [decide_eq_true (p := 48 ≤ c) (by omega), decide_eq_true (p := c ≤ 57) (by omega)]; rfl
  simp only []
  rw [if_neg (by omega), a1, if_neg (by decide), a2, if_neg (by decide), a3, if_pos rfl]
theorem lex_x {r : List Nat} (h : atL wrL r[0]? = false) : lexL (120 :: r) = some (Str.ofString "name", 1) := by
  have a1 : prL (120 :: r) 40 42 = false := by
    cases r with
    | nil => rfl
    | cons d r => rfl
  have a2 : spanL wrL r = 0 := by
    cases r with
    | nil => rfl
    | cons c r =>
      have h : wrL c = false := h
      simp only [spanL]
      rw [h, if_neg (by decide)]
  have a3 : spanL wrL (120 :: r) = 1 := by
    have : wrL 120 = true := by decide
    simp only [spanL]
    rw [this, if_pos rfl]
    have a2 := a2
    omega
  unfold lexL
  simp only []
  rw [if_neg (by decide), a1, if_neg (by decide), if_pos (by decide), a3]
  have : (KW.any fun x => x == (⟨(List.take 1 (120 :: r)).toArray⟩ : Str)) = false := by
    show (KW.any fun x => x == (⟨[120].toArray⟩ : Str)) = false
    decide +kernel
  rw [this]
  rfl
theorem lex_sign {c : Nat} {r : List Nat} {n : Nat} (hs : sgnL c = true) (hp : prL (c :: r) 40 42 = false) (h : signL (c :: r) = n + 1) : lexL (c :: r) = some (Str.ofString "sign", n + 1) := by
  have : c = 46 ∨ c = 59 ∨ c = 40 ∨ c = 41 ∨ c = 61 ∨ c = 58 := by simpa [sgnL] using hs
  unfold lexL
  simp only []
  rw [hp]
  rcases this with rfl | rfl | rfl | rfl | rfl | rfl
  all_goals rw [if_neg (by decide), if_neg (by decide), if_neg (by decide), if_neg (by decide), if_neg (by decide), h, if_neg (by omega)]
theorem fin12 {P : Fin 12 → Prop} (h0 : P 0) (h1 : P 1) (h2 : P 2) (h3 : P 3) (h4 : P 4) (h5 : P 5) (h6 : P 6) (h7 : P 7) (h8 : P 8) (h9 : P 9) (h10 : P 10) (h11 : P 11) : ∀ t, P t :=
  Fin.cases h0 (Fin.cases h1 (Fin.cases h2 (Fin.cases h3 (Fin.cases h4 (Fin.cases h5 (Fin.cases h6 (Fin.cases h7 (Fin.cases h8 (Fin.cases h9 (Fin.cases h10 (Fin.cases h11 (fun i => i.elim0))))))))))))
theorem tok_lex (t : Fin 12) (ts : List (Fin 12)) (l : List Nat) (h : Lay (some t) ts l) : lexL (twL t ++ l) = some (kdT t, (twL t).length) := by
  have hs := h.shape
  clear h
  revert hs
  revert t
  refine fin12 ?_ ?_ ?_ ?_ ?_ ?_ ?_ ?_ ?_ ?_ ?_ ?_
  all_goals intro hs
  · refine lex_num (r := 46 :: l) (by decide) (by decide) ?_
    (rcases hs with rfl | ⟨r, rfl⟩ | ⟨r, rfl⟩ | ⟨u, r, hu, rfl⟩; rfl; rfl; rfl; (revert hu; revert u; refine fin12 ?_ ?_ ?_ ?_ ?_ ?_ ?_ ?_ ?_ ?_ ?_ ?_ <;> first | exact fun hu => absurd hu (by decide) | exact fun _ => rfl))
  · refine lex_num (r := 46 :: 53 :: l) (by decide) (by decide) ?_
    (rcases hs with rfl | ⟨r, rfl⟩ | ⟨r, rfl⟩ | ⟨u, r, hu, rfl⟩; rfl; rfl; rfl; (revert hu; revert u; refine fin12 ?_ ?_ ?_ ?_ ?_ ?_ ?_ ?_ ?_ ?_ ?_ ?_ <;> first | exact fun hu => absurd hu (by decide) | exact fun _ => rfl))
  · refine lex_x (r := l) ?_
    (rcases hs with rfl | ⟨r, rfl⟩ | ⟨r, rfl⟩ | ⟨u, r, hu, rfl⟩; rfl; rfl; rfl; (revert hu; revert u; refine fin12 ?_ ?_ ?_ ?_ ?_ ?_ ?_ ?_ ?_ ?_ ?_ ?_ <;> first | exact fun hu => absurd hu (by decide) | exact fun _ => rfl))
  · refine lex_num (r := l) (by decide) (by decide) ?_
    (rcases hs with rfl | ⟨r, rfl⟩ | ⟨r, rfl⟩ | ⟨u, r, hu, rfl⟩; rfl; rfl; rfl; (revert hu; revert u; refine fin12 ?_ ?_ ?_ ?_ ?_ ?_ ?_ ?_ ?_ ?_ ?_ ?_ <;> first | exact fun hu => absurd hu (by decide) | exact fun _ => rfl))
  · have : signL (46 :: l) = 1 ∧ prL (46 :: l) 40 42 = false := by
      (rcases hs with rfl | ⟨r, rfl⟩ | ⟨r, rfl⟩ | ⟨u, r, hu, rfl⟩; exact ⟨rfl, rfl⟩; exact ⟨rfl, rfl⟩; exact ⟨rfl, rfl⟩; (revert hu; revert u; refine fin12 ?_ ?_ ?_ ?_ ?_ ?_ ?_ ?_ ?_ ?_ ?_ ?_ <;> first | exact fun hu => absurd hu (by decide) | exact fun _ => ⟨rfl, rfl⟩))
    exact lex_sign rfl this.2 this.1
  · exact lex_sign (c := 46) (r := 46 :: l) rfl rfl rfl
  · have : prL (59 :: l) 40 42 = false ∧ signL (59 :: l) = 1 := by cases l <;> exact ⟨rfl, rfl⟩
    exact lex_sign rfl this.1 this.2
  · have : signL (40 :: l) = 1 ∧ prL (40 :: l) 40 42 = false := by
      (rcases hs with rfl | ⟨r, rfl⟩ | ⟨r, rfl⟩ | ⟨u, r, hu, rfl⟩; exact ⟨rfl, rfl⟩; exact ⟨rfl, rfl⟩; exact ⟨rfl, rfl⟩; (revert hu; revert u; refine fin12 ?_ ?_ ?_ ?_ ?_ ?_ ?_ ?_ ?_ ?_ ?_ ?_ <;> first | exact fun hu => absurd hu (by decide) | exact fun _ => ⟨rfl, rfl⟩))
    exact lex_sign rfl this.2 this.1
  · refine lex_num (r := 70 :: 72 :: l) (by decide) (by decide) ?_
    (rcases hs with rfl | ⟨r, rfl⟩ | ⟨r, rfl⟩ | ⟨u, r, hu, rfl⟩; rfl; rfl; rfl; (revert hu; revert u; refine fin12 ?_ ?_ ?_ ?_ ?_ ?_ ?_ ?_ ?_ ?_ ?_ ?_ <;> first | exact fun hu => absurd hu (by decide) | exact fun _ => rfl))
  · refine lex_num (r := 46 :: 69 :: 50 :: l) (by decide) (by decide) ?_
    (rcases hs with rfl | ⟨r, rfl⟩ | ⟨r, rfl⟩ | ⟨u, r, hu, rfl⟩; rfl; rfl; rfl; (revert hu; revert u; refine fin12 ?_ ?_ ?_ ?_ ?_ ?_ ?_ ?_ ?_ ?_ ?_ ?_ <;> first | exact fun hu => absurd hu (by decide) | exact fun _ => rfl))
  · refine lex_num (r := 46 :: 53 :: 69 :: 45 :: 50 :: l) (by decide) (by decide) ?_
    (rcases hs with rfl | ⟨r, rfl⟩ | ⟨r, rfl⟩ | ⟨u, r, hu, rfl⟩; rfl; rfl; rfl; (revert hu; revert u; refine fin12 ?_ ?_ ?_ ?_ ?_ ?_ ?_ ?_ ?_ ?_ ?_ ?_ <;> first | exact fun hu => absurd hu (by decide) | exact fun _ => rfl))
  · have : prL (41 :: l) 40 42 = false ∧ signL (41 :: l) = 1 := by cases l <;> exact ⟨rfl, rfl⟩
    exact lex_sign rfl this.1 this.2
/-- the tokens of a row, as kinds and texts -/
noncomputable def toksT (ts : List (Fin 12)) : List (Str × Str) := ts.map fun t => (kdT t, sL (twL t))
noncomputable def solidB (p : Str × Str) : Bool := !(p.1 == Str.ofString "gap" || p.1 == Str.ofString "remark")
theorem kdT_solid : ∀ t, ((kdT t == Str.ofString "gap") = false) ∧ ((kdT t == Str.ofString "remark") = false) := by decide +kernel
theorem twL_ne : ∀ t, ∃ c r, twL t = c :: r ∧ 32 < c := by
  intro t
  match t with
  | 0 | 1 | 2 | 3 | 4 | 5 | 6 | 7 | 8 | 9 | 10 | 11 => exact ⟨_, _, rfl, by decide⟩
theorem lexA_tok {n : Nat} {t : Fin 12} {ts : List (Fin 12)} {l : List Nat} (h : Lay (some t) ts l) {its : List (Str × Str)} (hi : lexA n l = some its) : lexA (n + 1) (twL t ++ l) = some ((kdT t, sL (twL t)) :: its) := by
  have h1 := tok_lex t ts l h
  obtain ⟨c, r, e, _⟩ := twL_ne t
  have e2 : twL t ++ l = c :: (r ++ l) := by rw [e]; rfl
  rw [e2] at h1 ⊢
  simp only [lexA]
  rw [h1]
  simp only [Option.bind_some]
  rw [← e2, if_pos (by rw [List.length_append]; omega), List.drop_left, List.take_left, hi]
  rfl
theorem lexA_gap {n c : Nat} (hc : c = 32 ∨ c = 10) {l : List Nat} (hl : l = [] ∨ ∃ d r, l = d :: r ∧ 32 < d) {its : List (Str × Str)} (hi : lexA n l = some its) : lexA (n + 1) (c :: l) = some ((Str.ofString "gap", sL [c]) :: its) := by
  have hs : spanL gpL l = 0 := by
    rcases hl with rfl | ⟨d, r, rfl, hd⟩
    · rfl
    · have : gpL d = false := decide_eq_false (by omega)
      simp only [spanL]
      rw [this, if_neg (by decide)]
  have hs2 : spanL gpL (c :: l) = 1 := by
    have : gpL c = true := decide_eq_true (by rcases hc with rfl | rfl <;> decide)
    simp only [spanL]
    rw [this, if_pos rfl, hs]
  have h1 : lexL (c :: l) = some (Str.ofString "gap", 1) := by
    unfold lexL
    simp only []
    rw [if_pos (by rcases hc with rfl | rfl <;> decide), hs2]
  simp only [lexA]
  rw [h1]
  simp only [Option.bind_some]
  rw [if_pos (by simp)]
  show (lexA n l).map _ = _
  rw [hi]
  rfl
theorem Lay.cut {b : Fin 12} {ts : List (Fin 12)} {l : List Nat} (h : Lay (some b) ts l) : True := trivial
/-- a text that lays out the tokens is read as the tokens, with gaps between -/
theorem lay_lex : ∀ (ts : List (Fin 12)) (b : Option (Fin 12)) (l : List Nat) (n : Nat), Lay b ts l → l.length ≤ n →
    ∃ its, lexA n l = some its ∧ its.filter solidB = toksT ts ∧ (∀ p ∈ its, solidB p = false → p.1 = Str.ofString "gap" ∧ ((p.2 = sL [32]) ∨ (p.2 = sL [10]))) ∧ (∀ p ∈ its, solidB p = true → p ∈ toksT ts) := by
  intro ts
  induction ts with
  | nil =>
    intro b l n h hn
    cases h with
    | done => exact ⟨[], by cases n <;> rfl, rfl, (fun p hp => absurd hp List.not_mem_nil), (fun p hp => absurd hp List.not_mem_nil)⟩
    | line =>
      obtain ⟨n, rfl⟩ : ∃ k, n = k + 1 := ⟨n - 1, by simp at hn; omega⟩
      refine ⟨[(Str.ofString "gap", sL [10])], lexA_gap (.inr rfl) (.inl rfl) (by cases n <;> rfl), by decide +kernel, ?_, ?_⟩
      · intro p hp _
        rw [List.mem_singleton.mp hp]
        exact ⟨rfl, .inr rfl⟩
      · intro p hp h
        rw [List.mem_singleton.mp hp] at h
        exact absurd h (by decide +kernel)
  | cons t ts ih =>
    intro b l n h hn
    have key : ∀ (l : List Nat) (n : Nat), Lay (some t) ts l → (twL t ++ l).length ≤ n → ∃ its, lexA n (twL t ++ l) = some its ∧ its.filter solidB = toksT (t :: ts) ∧ (∀ p ∈ its, solidB p = false → p.1 = Str.ofString "gap" ∧ ((p.2 = sL [32]) ∨ (p.2 = sL [10]))) ∧ (∀ p ∈ its, solidB p = true → p ∈ toksT (t :: ts)) := by
      intro l n h hn
      obtain ⟨c, r, e, _⟩ := twL_ne t
      rw [List.length_append, e, List.length_cons] at hn
      obtain ⟨n, rfl⟩ : ∃ k, n = k + 1 := ⟨n - 1, by omega⟩
      obtain ⟨its, h1, h2, h3, h4⟩ := ih (some t) l n h (by omega)
      have hsol : solidB (kdT t, sL (twL t)) = true := by
        unfold solidB
        rw [(kdT_solid t).1, (kdT_solid t).2]
        rfl
      refine ⟨_, lexA_tok h h1, ?_, ?_, ?_⟩
      · rw [List.filter_cons_of_pos hsol, h2]
        rfl
      · intro p hp hs
        rcases List.mem_cons.mp hp with rfl | hp
        · rw [hsol] at hs; cases hs
        · exact h3 p hp hs
      · intro p hp hs
        rcases List.mem_cons.mp hp with rfl | hp
        · exact List.mem_cons_self ..
        · exact List.mem_cons_of_mem _ (h4 p hp hs)
    cases h with
    | head _ _ l h => exact key l n h hn
    | join b _ _ l hb h => exact key l n h hn
    | gap _ c _ _ l hc h =>
      obtain ⟨n, rfl⟩ : ∃ k, n = k + 1 := ⟨n - 1, by simp at hn; omega⟩
      obtain ⟨its, h1, h2, h3, h4⟩ := key l n h (by simp at hn ⊢; omega)
      have hsol : solidB (Str.ofString "gap", sL [c]) = false := by
        unfold solidB
        rw [beq_self_eq_true]
        rfl
      refine ⟨_, lexA_gap hc (.inr ?_) h1, ?_, ?_, ?_⟩
      · obtain ⟨d, r, e, hd⟩ := twL_ne t
        exact ⟨d, r ++ l, by rw [e]; rfl, hd⟩
      · rw [List.filter_cons_of_neg (by rw [hsol]; decide), h2]
      · intro p hp hs
        rcases List.mem_cons.mp hp with rfl | hp
        · exact ⟨rfl, by rcases hc with rfl | rfl <;> simp⟩
        · exact h3 p hp hs
      · intro p hp hs
        rcases List.mem_cons.mp hp with rfl | hp
        · rw [hsol] at hs; cases hs
        · exact h4 p hp hs
theorem lnsFmt40 : True := by
  w_top off
  k_with_none
  k_with "mine pure" => ((case k1 => k_asm); (case k2 => k_asm); (case k3 => k_asm); (case k4 => k_asm); (case k5 => k_asm); (case k6 => first | exact rfl | assumption); (case k7 => ktr_room); (case k8 => ktr_units); intro t9z h9z tk9z F9z N9z; (try dsimp only); (try k_fold))
  k_with "execs cons" => (k_here; (with_reducible show wpAny _ _ _ _ _ (Shared.mk _ _ _ (_ + _) _)); refine gen_tok ?_; intro tk9z)
  k_with "execs nil" => (k_here; (with_reducible show wpAny _ _ _ _ _ (Shared.mk _ _ _ (_ + _) _)); refine gen_tok ?_; intro tk9z)
  k_with "WiPost" => (dsimp only [WiPost])
  k_with "mine bool" => (simp only [isLetter, isHex, leS, *, decide_true, decide_false, Bool.not_true, Bool.not_false, Bool.and_true, Bool.true_and, Bool.and_false, Bool.false_and, Bool.or_true, Bool.true_or, Bool.or_false, Bool.false_or, not_true_eq_false, not_false_eq_true])
  k_with "WgPost" => (dsimp only [WgPost])
  k_with "mine steps" => repeat' (first | (k_unfold; (try dsimp only)) | (k_end; wrow_close) | ((fail_if_success (with_reducible show wpAny _ _ (exec (Stmt.While _ _ _ _) _) _ _ _)); (fail_if_success (with_reducible show wpAny _ _ (exec (Stmt.For _ _ _ _ _) _) _ _ _)); walk1) | (dsimp only; walk1) | (leave1; walk_say "STEP leave1"; try dsimp only) | fail "no step")
  k_with "call ref" => (k_here; (with_reducible show wpAny _ _ (call (Value.ref 67) _) _ _ _); k_dflt ((refine' SpecP.use (is_digit_spec _ _ _) ?k1 ?k2 ?k3 ?k4 ?k5 ?k6 ?k7 ?k8 ?_); k_extra "mine pure"))
  k_with "call ref" => (k_here; (with_reducible show wpAny _ _ (call (Value.ref 60) _) _ _ _); k_dflt ((refine' SpecP.use (is_letter_spec _ _ _) ?k1 ?k2 ?k3 ?k4 ?k5 ?k6 ?k7 ?k8 ?_); k_extra "mine pure"))
  k_with "call ref" => (k_here; (with_reducible show wpAny _ _ (call (Value.ref 74) _) _ _ _); k_dflt ((refine' SpecP.use (is_hex_spec _ _ _) ?k1 ?k2 ?k3 ?k4 ?k5 ?k6 ?k7 ?k8 ?_); k_extra "mine pure"))
  k_with "call ref" => (k_here; (with_reducible show wpAny _ _ (call (Value.ref 123) _) _ _ _); k_dflt ((refine' SpecP.use (word_end_spec _ _ _ _ _ (by with_reducible assumption) (by first | with_reducible assumption | omega)) ?k1 ?k2 ?k3 ?k4 ?k5 ?k6 ?k7 ?k8 ?_); k_extra "mine pure"))
  k_with "call ref" => (k_here; (with_reducible show wpAny _ _ (call (Value.ref 130) _) _ _ _); k_dflt ((refine' SpecP.use (digits_end_spec _ _ _ _ _ (by with_reducible assumption) (by first | with_reducible assumption | omega)) ?k1 ?k2 ?k3 ?k4 ?k5 ?k6 ?k7 ?k8 ?_); k_extra "mine pure"))
  k_with "call ref" => (k_here; (with_reducible show wpAny _ _ (call (Value.ref 102) _) _ _ _); k_dflt ((refine' SpecP.use (gap_end_spec _ _ _ _ _ (by with_reducible assumption) (by first | with_reducible assumption | omega)) ?k1 ?k2 ?k3 ?k4 ?k5 ?k6 ?k7 ?k8 ?_); k_extra "mine pure"))
  k_with "call ref" => (k_here; (with_reducible show wpAny _ _ (call (Value.ref 137) _) _ _ _); k_dflt ((refine' SpecP.use (number_end_spec _ _ _ _ _ (by with_reducible assumption) (by first | with_reducible assumption | omega)) ?k1 ?k2 ?k3 ?k4 ?k5 ?k6 ?k7 ?k8 ?_); k_extra "mine pure"))
  k_with "call ref" => (k_here; (with_reducible show wpAny _ _ (call (Value.ref 144) _) _ _ _); k_dflt ((refine' SpecP.use (sign_end_spec _ _ _ _ _ (by with_reducible assumption) (by first | with_reducible assumption | omega) (by first | with_reducible assumption | omega)) ?k1 ?k2 ?k3 ?k4 ?k5 ?k6 ?k7 ?k8 ?_); k_extra "mine pure"))
  k_with "call ref" => (k_here; (with_reducible show wpAny _ _ (call (Value.ref 109) _) _ _ _); k_dflt ((refine' SpecP.use (remark_end_spec _ _ _ _ _ (by with_reducible assumption) (by first | with_reducible assumption | omega)) ?k1 ?k2 ?k3 ?k4 ?k5 ?k6 ?k7 ?k8 ?_); k_extra "mine pure"))
  k_with "mine s1" => ((case k1 => k_asm); (case k2 => k_asm); (case k3 => k_asm); (case k4 => k_asm))
  k_with "mine s2" => ((case k5 => k_asm); (case k6 => first | exact rfl | assumption); (case k7 => ktr_room); (case k8 => ktr_units); intro v9z n9z h9z tk9z F9z N9z R9z; obtain ⟨e9z, e8z⟩ := R9z; subst e9z; (replace e8z := e8z.symm); subst e8z; (try dsimp only); (try k_fold))
  k_with "callWith" => (with_reducible refine callWith_method1 ?_)
  k_with "call builtin:len" => (k_here; (with_reducible show wpAny _ _ (call (Value.builtin "len") [Value.ref _]) _ _ _); k_dflt (refine' len_list ?k1 ?k2 ?_; (case k1 => exact News.isList (by k_asm) (by k_mem)); (case k2 => ((try simp only [List.size_toArray, List.length_append, List.length_cons, List.length_nil]); omega)); k_whole))
  k_with "call builtin:list.append" => (k_here; (with_reducible show wpAny _ _ (call (Value.builtin _) [Value.ref _, _]) _ _ _); k_dflt (refine' append_K ?k1 ?k2 ?k3 ?_ ?z; (case k1 => k_asm); (case k2 => k_asm); (case k3 => k_upd); (case z => ((try simp only [List.size_toArray, List.length_append, List.length_cons, List.length_nil]); rw [sizeLine_eq]; omega)); k_whole); intro h9z F9z N9z; (try k_sweep))
  k_with "binaryOp Add str str" => (k_here; (with_reducible show wpAny _ _ (binaryOp Operator.Add (Value.str _ _) (Value.str _ _)) _ _ _); refine' KOpn.add ?z ?_; (case z => ((have e1 := lenSp); (have e2 := lenEm); omega)); intro t9z k9z l9z)
  k_with "call builtin:str.join" => (k_here; (with_reducible show wpAny _ _ (call (Value.builtin _) [Value.str _ _, Value.ref _]) _ _ _); k_dflt (refine' join_list (News.isList (by k_asm) (by k_mem)) ?k2 ?k3 ?_; (case k2 => assumption); (case k3 => assumption); intro tj9z kj9z))
  k_with "subscriptTail" => (k_here; (with_reducible show wpAny _ _ (subscriptTail _ _ (Value.ref _) (Value.int (-1) _)) _ _ _); k_dflt (refine' lst_end ?zl ?_; (case zl => exact News.isList (by k_asm) (by k_mem))))
  k_with "call ref" => (k_here; (with_reducible show wpAny _ _ (call (Value.ref 228) _) _ _ _); k_dflt ((refine' SpecC.use (top_spec _ ?m1 ?m2 ?m3) ?k1 ?k2 ?k3 ?k4 ?k5 ?k6 ?k7 ?k8 ?_); k_extra "mine s1"; (case m1 => k_mem); (case m2 => k_mem); (case m3 => k_mem); k_extra "mine s2"))
  k_with "call ref" => (k_here; (with_reducible show wpAny _ _ (call (Value.ref 235) _) _ _ _); k_dflt ((refine' SpecC.use (usual_depth_spec _ ?m1 ?m2 ?m3 ?m4 ?m5 ?m6 ?m7) ?k1 ?k2 ?k3 ?k4 ?k5 ?k6 ?k7 ?k8 ?_); (case k1 => k_asm); (case k2 => k_asm); (case k3 => k_asm); (case k4 => k_asm); (case m1 => k_mem); (case m2 => k_mem); (case m3 => k_mem); (case m4 => k_mem); (case m5 => k_mem); (case m6 => first | rfl | assumption); (case m7 => assumption); (case k5 => k_asm); (case k6 => first | exact rfl | assumption); (case k7 => ktr_room); (case k8 => ktr_units); intro v9z n9z h9z tk9z F9z N9z R9z; obtain ⟨⟨et9z, e9z⟩, e8z⟩ := R9z; subst e9z; (replace e8z := e8z.symm); subst e8z; (try dsimp only); (try k_fold)))
  k_with "call ref" => (k_here; (with_reducible show wpAny _ _ (call (Value.ref 263) _) _ _ _); k_dflt ((refine' SpecC.use (is_tight_spec _ ?m1 ?m2 ?m3 ?m4 ?m5 ?m6 (by with_reducible assumption) (by with_reducible assumption) (by with_reducible assumption) (by with_reducible assumption) (by with_reducible assumption) ?m7 ?m8 (by with_reducible assumption) (by with_reducible assumption)) ?k1 ?k2 ?k3 ?k4 ?k5 ?k6 ?k7 ?k8 ?_); k_extra "mine s1"; (case m1 => k_mem); (case m2 => k_mem); (case m3 => k_mem); (case m4 => k_mem); (case m5 => k_mem); (case m6 => k_mem); (case m7 => first | rfl | assumption); (case m8 => first | rfl | assumption); k_extra "mine s2"))
  k_with "call ref" => (k_here; (with_reducible show wpAny _ _ (call (Value.ref 193) _) _ _ _); k_dflt ((refine' SpecP.use (is_unary_spec _ _ _ _ (by with_reducible assumption) (by with_reducible assumption)) ?k1 ?k2 ?k3 ?k4 ?k5 ?k6 ?k7 ?k8 ?_); k_extra "mine pure"))
  trivial
structure TokOk (k t : Str) : Prop where
  t1 : 1 ≤ t.length
  t2 : t.length ≤ 1000
  t3 : (Txt.item t 0 == Str.ofString "*") = false
  t4 : (t == Str.ofString "*") = false
  t5 : (t != Str.ofString "+") = true
  t6 : (t != Str.ofString "-") = true
  t7 : (k == Str.ofString "remark") = false
/-- what stands of a state at every token -/
structure WF (S : FS) (d : Int) : Prop where
  fit : Fit S
  una : S.una = false
  sta : S.sta = false
  bro : S.bro = false
  non : S.before = none → S.pieces = []
  som : ∀ kt, S.before = some kt → S.pieces ≠ [] ∧ TokOk kt.1 kt.2
  ud : UD S.top.word S.top.body S.top.sect S.top.base d
noncomputable def writeF (S : FS) (d : Int) (k t : Str) : FS :=
  { S with
    depth := (match S.before with | none => d | some _ => S.depth)
    pieces := (match S.before with
      | none => [Str.ofString "" ++ t]
      | some kt => S.pieces ++ [(if tiF kt.1 kt.2 k t = true then Str.ofString "" else Str.ofString " ") ++ t])
    before := some (k, t), una := false, sta := false }
theorem write1_spec (w : World) (x : Addr) (rest : Led) (S : FS) (d : Int) (i : Itm) (news : Led) (hF : FmtAt w x rest S news) (hwf : WF S d) (hok : TokOk i.kind i.text)
    (hi1 : (i.ix, instObj 91 i.dx) ∈ rest) (hi2 : (i.dx, itmD w i) ∈ rest) (hbn : S.before = none) :
    SpecC w 4 249 [.ref x, .ref i.ix] news (fun v n' => v = .none ∧ FmtAt w x rest (writeF S d i.kind i.text) n' ∧ topA n' = topA news) := by
  obtain ⟨fit, una, sta, bro, non, som, ud⟩ := hwf
  obtain ⟨f1, f2, f3, f6, f4, f5⟩ := fit
  obtain ⟨t1, t2, t3, t4, t5, t6, t7⟩ := hok
  have hpn := non hbn
  have hS : writeF S d i.kind i.text = { S with depth := d, pieces := [Str.ofString "" ++ i.text], before := some (i.kind, i.text), una := false, sta := false } := by unfold writeF; rw [hbn]
  rw [hS]
  have hbi : BefAt w rest (.ref i.ix) (some (i.kind, i.text)) := ⟨i, rfl, hi1, hi2, rfl, rfl⟩
  obtain ⟨dx, ra, pa, ba, bx, bd, kt, kb, ar, ap, nr, np, nb, bef, td, to, ta, tw, tb, ts, bl, rfl, hr, hp, hb, hl, hdis⟩ := hF
  have hj1 : (i.ix, instObj 91 i.dx) ∈ lowL w bl S.low ++ rest := List.mem_append_right _ hi1
  have hj2 : (i.dx, itmD w i) ∈ lowL w bl S.low ++ rest := List.mem_append_right _ hi2
  have hbv : bef = .none := by rw [hbn] at hb; exact hb
  subst hbv
  rw [hpn] at hp
  have z3 : ap.size = 0 := strs_size hp
  have hap : ap = #[] := Array.eq_empty_of_size_eq_zero z3
  subst hap
  obtain ⟨n1, n2, n3, n4, n5, n6, n7, n8, n9, n10, n11, n12, n13, n14, n15, n16, n17, n18, n19, n20, n21, a1, a2, a3, a4, a5, a6, a7⟩ := hdis
  unfold SpecC
  intro mean mg mb dp un gd cn cs a ccd cl outer A₀ base h₀ L m s Q E hB9 hF9 hX9 hN9 hT9 hk hd hu hret
  refine wpAny_call ?_
  k_dflt (refine' code_def (binds := [(Str.ofString "self", Value.ref x), (Str.ofString "item", Value.ref i.ix)]) ?k1 ?k2 ?k3 ?k4 ?k5 ?kA ?kF ?kK ?k6 ?k7 ?k8 ?k9 ?kB ?_ ?c2 ?c3 ?c4 ?c5; (case kA => exact rfl); (case kF => exact rfl); (case kK => assumption); (case k1 => k_asm); (case k2 => k_asm); (case k3 => k_asm); (case k4 => k_asm); (case k5 => k_asm); (case k6 => k_is); (case k7 => k_is); (case k8 => ktr_room); (case k9 => exact BindsTo.of_eq rfl); (case c5 => decide); (case kB => exact locs rfl); (case c2 => exact rfl); (case c3 => exact rfl); (case c4 => exact rfl); k_whole; intro g' L' h' FG' F' N' B' X' T'; (try dsimp only))
  refine gen_tok ?_
  intro tk0
  refine noE ?_
  generalize hrst : lowL w bl S.low ++ rest = rst at *
  k_steps
  subst hrst
  rename News _ _ _ _ => zzN
  rw [t4] at zzN
  refine' hret _ _ _ _ ?zF ?zN ⟨rfl, FmtAt.intro (bl := bl) ?zr ?zp ?zb ?zl ?zd, ?zt⟩
  case zF => k_asm
  case zN => exact zzN
  case zr => exact hr
  case zp => exact strs_push strs_nil _ _
  case zb => exact hbi
  case zl => exact hl
  case zd => (constructor <;> first | with_reducible assumption | exact Ne.symm (by with_reducible assumption) | omega | exact (fun p hp => Nat.ne_of_lt (tb_ltOf (by assumption) p hp)))
  case zt => rfl
theorem write2_spec (w : World) (x : Addr) (rest : Led) (S : FS) (d : Int) (i : Itm) (news : Led) (bk bt : Str) (hF : FmtAt w x rest S news) (hwf : WF S d) (hok : TokOk i.kind i.text)
    (hi1 : (i.ix, instObj 91 i.dx) ∈ rest) (hi2 : (i.dx, itmD w i) ∈ rest) (hbn : S.before = some (bk, bt)) :
    SpecC w 4 249 [.ref x, .ref i.ix] news (fun v n' => v = .none ∧ FmtAt w x rest (writeF S d i.kind i.text) n' ∧ topA n' = topA news) := by
  obtain ⟨fit, una, sta, bro, non, som, ud⟩ := hwf
  obtain ⟨f1, f2, f3, f6, f4, f5⟩ := fit
  obtain ⟨t1, t2, t3, t4, t5, t6, t7⟩ := hok
  obtain ⟨hpn, o1, o2, o3, o4, o5, o6, o7⟩ := som _ hbn
  have hbi : BefAt w rest (.ref i.ix) (some (i.kind, i.text)) := ⟨i, rfl, hi1, hi2, rfl, rfl⟩
  have hS : writeF S d i.kind i.text = { S with pieces := S.pieces ++ [(if tiF bk bt i.kind i.text = true then Str.ofString "" else Str.ofString " ") ++ i.text], before := some (i.kind, i.text), una := false, sta := false } := by unfold writeF; rw [hbn]
  rw [hS]
  obtain ⟨dx, ra, pa, ba, bx, bd, kt, kb, ar, ap, nr, np, nb, bef, td, to, ta, tw, tb, ts, bl, rfl, hr, hp, hb, hl, hdis⟩ := hF
  have hj1 : (i.ix, instObj 91 i.dx) ∈ lowL w bl S.low ++ rest := List.mem_append_right _ hi1
  have hj2 : (i.dx, itmD w i) ∈ lowL w bl S.low ++ rest := List.mem_append_right _ hi2
  rw [hbn] at hb
  obtain ⟨b, hbv, hb1, hb2, hbk, hbt⟩ := hb
  subst hbv hbk hbt
  have hb3 : (b.ix, instObj 91 b.dx) ∈ lowL w bl S.low ++ rest := List.mem_append_right _ hb1
  have hb4 : (b.dx, itmD w b) ∈ lowL w bl S.low ++ rest := List.mem_append_right _ hb2
  have z3 : 0 < ap.size := by rw [strs_size hp]; exact List.length_pos_iff.mpr hpn
  have z4 := strs_size hp
  have z5 : (((ap.size : Nat) : Int) == 0) = false := beq_eq_false_iff_ne.mpr (by omega)
  have z6 : (decide (((ap.size : Nat) : Int) = 0)) = false := decide_eq_false (by omega)
  obtain ⟨n1, n2, n3, n4, n5, n6, n7, n8, n9, n10, n11, n12, n13, n14, n15, n16, n17, n18, n19, n20, n21, a1, a2, a3, a4, a5, a6, a7⟩ := hdis
  unfold SpecC
  intro mean mg mb dp un gd cn cs a ccd cl outer A₀ base h₀ L m s Q E hB9 hF9 hX9 hN9 hT9 hk hd hu hret
  refine wpAny_call ?_
  k_dflt (refine' code_def (binds := [(Str.ofString "self", Value.ref x), (Str.ofString "item", Value.ref i.ix)]) ?k1 ?k2 ?k3 ?k4 ?k5 ?kA ?kF ?kK ?k6 ?k7 ?k8 ?k9 ?kB ?_ ?c2 ?c3 ?c4 ?c5; (case kA => exact rfl); (case kF => exact rfl); (case kK => assumption); (case k1 => k_asm); (case k2 => k_asm); (case k3 => k_asm); (case k4 => k_asm); (case k5 => k_asm); (case k6 => k_is); (case k7 => k_is); (case k8 => ktr_room); (case k9 => exact BindsTo.of_eq rfl); (case c5 => decide); (case kB => exact locs rfl); (case c2 => exact rfl); (case c3 => exact rfl); (case c4 => exact rfl); k_whole; intro g' L' h' FG' F' N' B' X' T'; (try dsimp only))
  refine gen_tok ?_
  intro tk0
  refine noE ?_
  generalize hrst : lowL w bl S.low ++ rest = rst at *
  k_steps
  all_goals
    subst hrst
    rename News _ _ _ _ => zzN
    rw [t4] at zzN
    refine' hret _ _ _ _ ?zF ?zN ⟨rfl, FmtAt.intro (bl := bl) ?zr ?zp ?zb ?zl ?zd, ?zt⟩
    case zF => k_asm
    case zN => exact zzN
    case zr => exact hr
    case zp => first | (rw [if_pos (by with_reducible assumption)]; exact strs_push hp _ _) | (rw [if_neg (Bool.eq_false_iff.mp (by with_reducible assumption))]; exact strs_push hp _ _)
    case zb => exact hbi
    case zl => exact hl
    case zd => (constructor <;> first | with_reducible assumption | exact Ne.symm (by with_reducible assumption) | omega | exact (fun p hp => Nat.ne_of_lt (tb_ltOf (by assumption) p hp)))
    case zt => rfl
theorem write_spec (w : World) (x : Addr) (rest : Led) (S : FS) (d : Int) (i : Itm) (news : Led) (hF : FmtAt w x rest S news) (hwf : WF S d) (hok : TokOk i.kind i.text)
    (hi1 : (i.ix, instObj 91 i.dx) ∈ rest) (hi2 : (i.dx, itmD w i) ∈ rest) :
    SpecC w 4 249 [.ref x, .ref i.ix] news (fun v n' => v = .none ∧ FmtAt w x rest (writeF S d i.kind i.text) n' ∧ topA n' = topA news) := by
  cases h : S.before with
  | none => exact write1_spec w x rest S d i news hF hwf hok hi1 hi2 h
  | some kt => exact write2_spec w x rest S d i news kt.1 kt.2 hF hwf hok hi1 hi2 h
theorem Fit.upd {S : FS} {before : Option (Str × Str)} {top : Blk} {low : List Blk} {ob arr : Int} {nam hea fie bop una sta bro arm : Bool} (h : Fit S) : Fit ⟨S.rows, S.pieces, before, S.depth, top, low, ob, arr, nam, hea, fie, bop, una, sta, bro, arm⟩ := ⟨h.f1, h.f2, h.f3, h.f6, h.f4, h.f5⟩
theorem lnsFmt50 : True := by
  w_top off
  k_with_none
  k_with "mine pure" => ((case k1 => k_asm); (case k2 => k_asm); (case k3 => k_asm); (case k4 => k_asm); (case k5 => k_asm); (case k6 => first | exact rfl | assumption); (case k7 => ktr_room); (case k8 => ktr_units); intro t9z h9z tk9z F9z N9z; (try dsimp only); (try k_fold))
  k_with "execs cons" => (k_here; (with_reducible show wpAny _ _ _ _ _ (Shared.mk _ _ _ (_ + _) _)); refine gen_tok ?_; intro tk9z)
  k_with "execs nil" => (k_here; (with_reducible show wpAny _ _ _ _ _ (Shared.mk _ _ _ (_ + _) _)); refine gen_tok ?_; intro tk9z)
  k_with "WiPost" => (dsimp only [WiPost])
  k_with "mine bool" => (simp only [isLetter, isHex, leS, *, decide_true, decide_false, Bool.not_true, Bool.not_false, Bool.and_true, Bool.true_and, Bool.and_false, Bool.false_and, Bool.or_true, Bool.true_or, Bool.or_false, Bool.false_or, not_true_eq_false, not_false_eq_true])
  k_with "WgPost" => (dsimp only [WgPost])
  k_with "mine steps" => repeat' (first | (k_unfold; (try dsimp only)) | (k_end; wrow_close) | ((fail_if_success (with_reducible show wpAny _ _ (exec (Stmt.While _ _ _ _) _) _ _ _)); (fail_if_success (with_reducible show wpAny _ _ (exec (Stmt.For _ _ _ _ _) _) _ _ _)); walk1) | (dsimp only; walk1) | (leave1; walk_say "STEP leave1"; try dsimp only) | fail "no step")
  k_with "call ref" => (k_here; (with_reducible show wpAny _ _ (call (Value.ref 67) _) _ _ _); k_dflt ((refine' SpecP.use (is_digit_spec _ _ _) ?k1 ?k2 ?k3 ?k4 ?k5 ?k6 ?k7 ?k8 ?_); k_extra "mine pure"))
  k_with "call ref" => (k_here; (with_reducible show wpAny _ _ (call (Value.ref 60) _) _ _ _); k_dflt ((refine' SpecP.use (is_letter_spec _ _ _) ?k1 ?k2 ?k3 ?k4 ?k5 ?k6 ?k7 ?k8 ?_); k_extra "mine pure"))
  k_with "call ref" => (k_here; (with_reducible show wpAny _ _ (call (Value.ref 74) _) _ _ _); k_dflt ((refine' SpecP.use (is_hex_spec _ _ _) ?k1 ?k2 ?k3 ?k4 ?k5 ?k6 ?k7 ?k8 ?_); k_extra "mine pure"))
  k_with "call ref" => (k_here; (with_reducible show wpAny _ _ (call (Value.ref 123) _) _ _ _); k_dflt ((refine' SpecP.use (word_end_spec _ _ _ _ _ (by with_reducible assumption) (by first | with_reducible assumption | omega)) ?k1 ?k2 ?k3 ?k4 ?k5 ?k6 ?k7 ?k8 ?_); k_extra "mine pure"))
  k_with "call ref" => (k_here; (with_reducible show wpAny _ _ (call (Value.ref 130) _) _ _ _); k_dflt ((refine' SpecP.use (digits_end_spec _ _ _ _ _ (by with_reducible assumption) (by first | with_reducible assumption | omega)) ?k1 ?k2 ?k3 ?k4 ?k5 ?k6 ?k7 ?k8 ?_); k_extra "mine pure"))
  k_with "call ref" => (k_here; (with_reducible show wpAny _ _ (call (Value.ref 102) _) _ _ _); k_dflt ((refine' SpecP.use (gap_end_spec _ _ _ _ _ (by with_reducible assumption) (by first | with_reducible assumption | omega)) ?k1 ?k2 ?k3 ?k4 ?k5 ?k6 ?k7 ?k8 ?_); k_extra "mine pure"))
  k_with "call ref" => (k_here; (with_reducible show wpAny _ _ (call (Value.ref 137) _) _ _ _); k_dflt ((refine' SpecP.use (number_end_spec _ _ _ _ _ (by with_reducible assumption) (by first | with_reducible assumption | omega)) ?k1 ?k2 ?k3 ?k4 ?k5 ?k6 ?k7 ?k8 ?_); k_extra "mine pure"))
  k_with "call ref" => (k_here; (with_reducible show wpAny _ _ (call (Value.ref 144) _) _ _ _); k_dflt ((refine' SpecP.use (sign_end_spec _ _ _ _ _ (by with_reducible assumption) (by first | with_reducible assumption | omega) (by first | with_reducible assumption | omega)) ?k1 ?k2 ?k3 ?k4 ?k5 ?k6 ?k7 ?k8 ?_); k_extra "mine pure"))
  k_with "call ref" => (k_here; (with_reducible show wpAny _ _ (call (Value.ref 109) _) _ _ _); k_dflt ((refine' SpecP.use (remark_end_spec _ _ _ _ _ (by with_reducible assumption) (by first | with_reducible assumption | omega)) ?k1 ?k2 ?k3 ?k4 ?k5 ?k6 ?k7 ?k8 ?_); k_extra "mine pure"))
  k_with "mine s1" => ((case k1 => k_asm); (case k2 => k_asm); (case k3 => k_asm); (case k4 => k_asm))
  k_with "mine s2" => ((case k5 => k_asm); (case k6 => first | exact rfl | assumption); (case k7 => ktr_room); (case k8 => ktr_units); intro v9z n9z h9z tk9z F9z N9z R9z; obtain ⟨e9z, e8z⟩ := R9z; subst e9z; (replace e8z := e8z.symm); subst e8z; (try dsimp only); (try k_fold))
  k_with "callWith" => (with_reducible refine callWith_method1 ?_)
  k_with "call builtin:len" => (k_here; (with_reducible show wpAny _ _ (call (Value.builtin "len") [Value.ref _]) _ _ _); k_dflt (refine' len_list ?k1 ?k2 ?_; (case k1 => exact News.isList (by k_asm) (by k_mem)); (case k2 => ((try simp only [List.size_toArray, List.length_append, List.length_cons, List.length_nil]); omega)); k_whole))
  k_with "call builtin:list.append" => (k_here; (with_reducible show wpAny _ _ (call (Value.builtin _) [Value.ref _, _]) _ _ _); k_dflt (refine' append_K ?k1 ?k2 ?k3 ?_ ?z; (case k1 => k_asm); (case k2 => k_asm); (case k3 => k_upd); (case z => ((try simp only [List.size_toArray, List.length_append, List.length_cons, List.length_nil]); rw [sizeLine_eq]; omega)); k_whole); intro h9z F9z N9z; (try k_sweep))
  k_with "binaryOp Add str str" => (k_here; (with_reducible show wpAny _ _ (binaryOp Operator.Add (Value.str _ _) (Value.str _ _)) _ _ _); refine' KOpn.add ?z ?_; (case z => ((have e1 := lenSp); (have e2 := lenEm); omega)); intro t9z k9z l9z)
  k_with "call builtin:str.join" => (k_here; (with_reducible show wpAny _ _ (call (Value.builtin _) [Value.str _ _, Value.ref _]) _ _ _); k_dflt (refine' join_list (News.isList (by k_asm) (by k_mem)) ?k2 ?k3 ?_; (case k2 => assumption); (case k3 => assumption); intro tj9z kj9z))
  k_with "subscriptTail" => (k_here; (with_reducible show wpAny _ _ (subscriptTail _ _ (Value.ref _) (Value.int (-1) _)) _ _ _); k_dflt (refine' lst_end ?zl ?_; (case zl => exact News.isList (by k_asm) (by k_mem))))
  k_with "call ref" => (k_here; (with_reducible show wpAny _ _ (call (Value.ref 228) _) _ _ _); k_dflt ((refine' SpecC.use (top_spec _ ?m1 ?m2 ?m3) ?k1 ?k2 ?k3 ?k4 ?k5 ?k6 ?k7 ?k8 ?_); k_extra "mine s1"; (case m1 => k_mem); (case m2 => k_mem); (case m3 => k_mem); k_extra "mine s2"))
  k_with "call ref" => (k_here; (with_reducible show wpAny _ _ (call (Value.ref 235) _) _ _ _); k_dflt ((refine' SpecC.use (usual_depth_spec _ ?m1 ?m2 ?m3 ?m4 ?m5 ?m6 ?m7) ?k1 ?k2 ?k3 ?k4 ?k5 ?k6 ?k7 ?k8 ?_); (case k1 => k_asm); (case k2 => k_asm); (case k3 => k_asm); (case k4 => k_asm); (case m1 => k_mem); (case m2 => k_mem); (case m3 => k_mem); (case m4 => k_mem); (case m5 => k_mem); (case m6 => first | rfl | assumption); (case m7 => assumption); (case k5 => k_asm); (case k6 => first | exact rfl | assumption); (case k7 => ktr_room); (case k8 => ktr_units); intro v9z n9z h9z tk9z F9z N9z R9z; obtain ⟨⟨et9z, e9z⟩, e8z⟩ := R9z; subst e9z; (replace e8z := e8z.symm); subst e8z; (try dsimp only); (try k_fold)))
  k_with "call ref" => (k_here; (with_reducible show wpAny _ _ (call (Value.ref 263) _) _ _ _); k_dflt ((refine' SpecC.use (is_tight_spec _ ?m1 ?m2 ?m3 ?m4 ?m5 ?m6 (by with_reducible assumption) (by with_reducible assumption) (by with_reducible assumption) (by with_reducible assumption) (by with_reducible assumption) ?m7 ?m8 (by with_reducible assumption) (by with_reducible assumption)) ?k1 ?k2 ?k3 ?k4 ?k5 ?k6 ?k7 ?k8 ?_); k_extra "mine s1"; (case m1 => k_mem); (case m2 => k_mem); (case m3 => k_mem); (case m4 => k_mem); (case m5 => k_mem); (case m6 => k_mem); (case m7 => first | rfl | assumption); (case m8 => first | rfl | assumption); k_extra "mine s2"))
  k_with "call ref" => (k_here; (with_reducible show wpAny _ _ (call (Value.ref 193) _) _ _ _); k_dflt ((refine' SpecP.use (is_unary_spec _ _ _ _ (by with_reducible assumption) (by with_reducible assumption)) ?k1 ?k2 ?k3 ?k4 ?k5 ?k6 ?k7 ?k8 ?_); k_extra "mine pure"))
  k_with "mine f1" => ((case k1 => k_asm); (case k2 => k_asm); (case k3 => k_asm); (case k4 => first | exact news_tup (news_tup (by k_asm)) | exact news_tup (by k_asm) | k_asm); (case hF => (refine' FmtAt.intro ?zr ?zp ?zb ?zl ?zd; (case zr => assumption); (case zp => assumption); (case zb => assumption); (case zl => assumption); (case zd => assumption))))
  k_with "mine f2" => ((case k5 => k_asm); (case k6 => first | exact rfl | assumption); (case k7 => ktr_room); (case k8 => ktr_units); intro v9z n9z h9z tk9z F9z N9z R9z; obtain ⟨e9z, R9z, p9z⟩ := R9z; subst e9z; obtain ⟨dx9z, ra9z, pa9z, ba9z, bx9z, bd9z, kt9z, kb9z, ar9z, ap9z, nr9z, np9z, nb9z, bef9z, td9z, to9z, ta9z, tw9z, tb9z, ts9z, bl9z, e8z, hr9z, hp9z, hb9z, hl9z, hd9z⟩ := R9z; subst e8z; (replace p9z := (Option.some.inj p9z).symm); subst p9z; (try dsimp only [endRowF, writeF] at N9z hr9z hp9z hb9z hl9z hd9z);  (try k_sweep); (try dsimp only); (try k_fold))
  k_with "mine f3" => ((case k5 => k_asm); (case k6 => first | exact rfl | assumption); (case k7 => ktr_room); (case k8 => ktr_units); intro v9z n9z h9z tk9z F9z N9z R9z; obtain ⟨e9z, R9z⟩ := R9z; subst e9z; obtain ⟨dx9z, ra9z, pa9z, ba9z, bx9z, bd9z, kt9z, kb9z, ar9z, ap9z, nr9z, np9z, nb9z, bef9z, td9z, to9z, ta9z, tw9z, tb9z, ts9z, bl9z, e8z, hr9z, hp9z, hb9z, hl9z, hd9z⟩ := R9z; subst e8z; (try dsimp only [endRowF, writeF] at N9z hr9z hp9z hb9z hl9z hd9z);  (try k_sweep); (try dsimp only); (try k_fold))
  k_with "call ref" => (k_here; (with_reducible show wpAny _ _ (call (Value.ref 242) _) _ _ _); k_dflt ((refine' SpecC.use (end_row_spec _ _ _ _ _ ?hF ?hf) ?k1 ?k2 ?k3 ?k4 ?k5 ?k6 ?k7 ?k8 ?_); k_extra "mine f1"; (case hf => (first | assumption | exact Fit.upd (by assumption))); k_extra "mine f2"))
  k_with "call ref" => (k_here; (with_reducible show wpAny _ _ (call (Value.ref 249) _) _ _ _); k_dflt ((refine' SpecC.use (write_spec _ _ _ _ _ _ _ ?hF ?hw (by assumption) (by assumption) (by assumption)) ?k1 ?k2 ?k3 ?k4 ?k5 ?k6 ?k7 ?k8 ?_); k_extra "mine f1"; (case hw => assumption); k_extra "mine f2"))
  trivial
noncomputable def beginF (S : FS) : FS := { endRowF { S with fie := false } with nam := true }
theorem begin_fields_spec (w : World) (x : Addr) (rest : Led) (S : FS) (news : Led) (hF : FmtAt w x rest S news) (hfit : Fit S) :
    SpecC w 4 284 [.ref x] news (fun v n' => v = .none ∧ FmtAt w x rest (beginF S) n' ∧ topA n' = topA news) := by
  obtain ⟨dx, ra, pa, ba, bx, bd, kt, kb, ar, ap, nr, np, nb, bef, td, to, ta, tw, tb, ts, bl, rfl, hr, hp, hb, hl, hdis⟩ := hF
  (try dsimp only at hr hp hb hl hdis)
  (try dsimp only)
  unfold SpecC
  intro mean mg mb dp un gd cn cs a ccd cl outer A₀ base h₀ L m s Q E hB9 hF9 hX9 hN9 hT9 hk hd hu hret
  refine wpAny_call ?_
  k_dflt (refine' code_def (binds := [(Str.ofString "self", Value.ref x)]) ?k1 ?k2 ?k3 ?k4 ?k5 ?kA ?kF ?kK ?k6 ?k7 ?k8 ?k9 ?kB ?_ ?c2 ?c3 ?c4 ?c5; (case kA => exact rfl); (case kF => exact rfl); (case kK => assumption); (case k1 => k_asm); (case k2 => k_asm); (case k3 => k_asm); (case k4 => k_asm); (case k5 => k_asm); (case k6 => k_is); (case k7 => k_is); (case k8 => ktr_room); (case k9 => exact BindsTo.of_eq rfl); (case c5 => decide); (case kB => exact locs rfl); (case c2 => exact rfl); (case c3 => exact rfl); (case c4 => exact rfl); k_whole; intro g' L' h' FG' F' N' B' X' T'; (try dsimp only))
  refine gen_tok ?_
  intro tk0
  refine noE ?_
  k_steps
  refine' hret _ _ _ _ ?zF ?zN ⟨rfl, FmtAt.intro ?zr ?zp ?zb ?zl ?zd, ?zt⟩
  case zF => k_asm
  case zN => k_asm
  case zr => assumption
  case zp => assumption
  case zb => assumption
  case zl => assumption
  case zd => assumption
  case zt => rfl
noncomputable def writeAtF (S : FS) (dep : Int) (k t : Str) : FS := { endRowF S with pieces := [t], before := some (k, t), depth := dep }
theorem write_at_spec (w : World) (x : Addr) (rest : Led) (S : FS) (i : Itm) (dep : Int) (tp : Tok) (news : Led) (hF : FmtAt w x rest S news) (hfit : Fit S)
    (hi1 : (i.ix, instObj 91 i.dx) ∈ rest) (hi2 : (i.dx, itmD w i) ∈ rest) :
    SpecC w 4 256 [.ref x, .ref i.ix, .int dep tp] news (fun v n' => v = .none ∧ FmtAt w x rest (writeAtF S dep i.kind i.text) n' ∧ topA n' = topA news) := by
  have hbi : BefAt w rest (.ref i.ix) (some (i.kind, i.text)) := ⟨i, rfl, hi1, hi2, rfl, rfl⟩
  obtain ⟨dx, ra, pa, ba, bx, bd, kt, kb, ar, ap, nr, np, nb, bef, td, to, ta, tw, tb, ts, bl, rfl, hr, hp, hb, hl, hdis⟩ := hF
  (try dsimp only at hr hp hb hl hdis)
  (try dsimp only)
  unfold SpecC
  intro mean mg mb dp un gd cn cs a ccd cl outer A₀ base h₀ L m s Q E hB9 hF9 hX9 hN9 hT9 hk hd hu hret
  refine wpAny_call ?_
  k_dflt (refine' code_def (binds := [(Str.ofString "self", Value.ref x), (Str.ofString "item", Value.ref i.ix), (Str.ofString "depth", Value.int dep tp)]) ?k1 ?k2 ?k3 ?k4 ?k5 ?kA ?kF ?kK ?k6 ?k7 ?k8 ?k9 ?kB ?_ ?c2 ?c3 ?c4 ?c5; (case kA => exact rfl); (case kF => exact rfl); (case kK => assumption); (case k1 => k_asm); (case k2 => k_asm); (case k3 => k_asm); (case k4 => k_asm); (case k5 => k_asm); (case k6 => k_is); (case k7 => k_is); (case k8 => ktr_room); (case k9 => exact BindsTo.of_eq rfl); (case c5 => decide); (case kB => exact locs rfl); (case c2 => exact rfl); (case c3 => exact rfl); (case c4 => exact rfl); k_whole; intro g' L' h' FG' F' N' B' X' T'; (try dsimp only))
  refine gen_tok ?_
  intro tk0
  refine noE ?_
  k_steps
  refine' hret _ _ _ _ ?zF ?zN ⟨rfl, FmtAt.intro ?zr ?zp ?zb ?zl ?zd, ?zt⟩
  case zF => k_asm
  case zN => k_asm
  case zr => assumption
  case zp => exact strs_push (by assumption) _ _
  case zb => assumption
  case zl => assumption
  case zd => assumption
  case zt => rfl
--FMTFS endRowF, writeF, beginF, writeAtF
theorem lnsFmt60 : True := by
  w_top off
  k_with_none
  k_with "mine pure" => ((case k1 => k_asm); (case k2 => k_asm); (case k3 => k_asm); (case k4 => k_asm); (case k5 => k_asm); (case k6 => first | exact rfl | assumption); (case k7 => ktr_room); (case k8 => ktr_units); intro t9z h9z tk9z F9z N9z; (try dsimp only); (try k_fold))
  k_with "execs cons" => (k_here; (with_reducible show wpAny _ _ _ _ _ (Shared.mk _ _ _ (_ + _) _)); refine gen_tok ?_; intro tk9z)
  k_with "execs nil" => (k_here; (with_reducible show wpAny _ _ _ _ _ (Shared.mk _ _ _ (_ + _) _)); refine gen_tok ?_; intro tk9z)
  k_with "WiPost" => (dsimp only [WiPost])
  k_with "mine bool" => (simp only [isLetter, isHex, leS, *, decide_true, decide_false, Bool.not_true, Bool.not_false, Bool.and_true, Bool.true_and, Bool.and_false, Bool.false_and, Bool.or_true, Bool.true_or, Bool.or_false, Bool.false_or, not_true_eq_false, not_false_eq_true])
  k_with "WgPost" => (dsimp only [WgPost])
  k_with "mine steps" => repeat' (first | (k_unfold; (try dsimp only)) | (k_end; wrow_close) | ((fail_if_success (with_reducible show wpAny _ _ (exec (Stmt.While _ _ _ _) _) _ _ _)); (fail_if_success (with_reducible show wpAny _ _ (exec (Stmt.For _ _ _ _ _) _) _ _ _)); walk1) | (dsimp only; walk1) | (leave1; walk_say "STEP leave1"; try dsimp only) | fail "no step")
  k_with "call ref" => (k_here; (with_reducible show wpAny _ _ (call (Value.ref 67) _) _ _ _); k_dflt ((refine' SpecP.use (is_digit_spec _ _ _) ?k1 ?k2 ?k3 ?k4 ?k5 ?k6 ?k7 ?k8 ?_); k_extra "mine pure"))
  k_with "call ref" => (k_here; (with_reducible show wpAny _ _ (call (Value.ref 60) _) _ _ _); k_dflt ((refine' SpecP.use (is_letter_spec _ _ _) ?k1 ?k2 ?k3 ?k4 ?k5 ?k6 ?k7 ?k8 ?_); k_extra "mine pure"))
  k_with "call ref" => (k_here; (with_reducible show wpAny _ _ (call (Value.ref 74) _) _ _ _); k_dflt ((refine' SpecP.use (is_hex_spec _ _ _) ?k1 ?k2 ?k3 ?k4 ?k5 ?k6 ?k7 ?k8 ?_); k_extra "mine pure"))
  k_with "call ref" => (k_here; (with_reducible show wpAny _ _ (call (Value.ref 123) _) _ _ _); k_dflt ((refine' SpecP.use (word_end_spec _ _ _ _ _ (by with_reducible assumption) (by first | with_reducible assumption | omega)) ?k1 ?k2 ?k3 ?k4 ?k5 ?k6 ?k7 ?k8 ?_); k_extra "mine pure"))
  k_with "call ref" => (k_here; (with_reducible show wpAny _ _ (call (Value.ref 130) _) _ _ _); k_dflt ((refine' SpecP.use (digits_end_spec _ _ _ _ _ (by with_reducible assumption) (by first | with_reducible assumption | omega)) ?k1 ?k2 ?k3 ?k4 ?k5 ?k6 ?k7 ?k8 ?_); k_extra "mine pure"))
  k_with "call ref" => (k_here; (with_reducible show wpAny _ _ (call (Value.ref 102) _) _ _ _); k_dflt ((refine' SpecP.use (gap_end_spec _ _ _ _ _ (by with_reducible assumption) (by first | with_reducible assumption | omega)) ?k1 ?k2 ?k3 ?k4 ?k5 ?k6 ?k7 ?k8 ?_); k_extra "mine pure"))
  k_with "call ref" => (k_here; (with_reducible show wpAny _ _ (call (Value.ref 137) _) _ _ _); k_dflt ((refine' SpecP.use (number_end_spec _ _ _ _ _ (by with_reducible assumption) (by first | with_reducible assumption | omega)) ?k1 ?k2 ?k3 ?k4 ?k5 ?k6 ?k7 ?k8 ?_); k_extra "mine pure"))
  k_with "call ref" => (k_here; (with_reducible show wpAny _ _ (call (Value.ref 144) _) _ _ _); k_dflt ((refine' SpecP.use (sign_end_spec _ _ _ _ _ (by with_reducible assumption) (by first | with_reducible assumption | omega) (by first | with_reducible assumption | omega)) ?k1 ?k2 ?k3 ?k4 ?k5 ?k6 ?k7 ?k8 ?_); k_extra "mine pure"))
  k_with "call ref" => (k_here; (with_reducible show wpAny _ _ (call (Value.ref 109) _) _ _ _); k_dflt ((refine' SpecP.use (remark_end_spec _ _ _ _ _ (by with_reducible assumption) (by first | with_reducible assumption | omega)) ?k1 ?k2 ?k3 ?k4 ?k5 ?k6 ?k7 ?k8 ?_); k_extra "mine pure"))
  k_with "mine s1" => ((case k1 => k_asm); (case k2 => k_asm); (case k3 => k_asm); (case k4 => k_asm))
  k_with "mine s2" => ((case k5 => k_asm); (case k6 => first | exact rfl | assumption); (case k7 => ktr_room); (case k8 => ktr_units); intro v9z n9z h9z tk9z F9z N9z R9z; obtain ⟨e9z, e8z⟩ := R9z; subst e9z; (replace e8z := e8z.symm); subst e8z; (try dsimp only); (try k_fold))
  k_with "callWith" => (with_reducible refine callWith_method1 ?_)
  k_with "call builtin:len" => (k_here; (with_reducible show wpAny _ _ (call (Value.builtin "len") [Value.ref _]) _ _ _); k_dflt (refine' len_list ?k1 ?k2 ?_; (case k1 => exact News.isList (by k_asm) (by k_mem)); (case k2 => ((try simp only [List.size_toArray, List.length_append, List.length_cons, List.length_nil]); omega)); k_whole))
  k_with "call builtin:list.append" => (k_here; (with_reducible show wpAny _ _ (call (Value.builtin _) [Value.ref _, _]) _ _ _); k_dflt (refine' append_K ?k1 ?k2 ?k3 ?_ ?z; (case k1 => k_asm); (case k2 => k_asm); (case k3 => k_upd); (case z => ((try simp only [List.size_toArray, List.length_append, List.length_cons, List.length_nil]); rw [sizeLine_eq]; omega)); k_whole); intro h9z F9z N9z; (try k_sweep))
  k_with "binaryOp Add str str" => (k_here; (with_reducible show wpAny _ _ (binaryOp Operator.Add (Value.str _ _) (Value.str _ _)) _ _ _); refine' KOpn.add ?z ?_; (case z => ((have e1 := lenSp); (have e2 := lenEm); omega)); intro t9z k9z l9z)
  k_with "call builtin:str.join" => (k_here; (with_reducible show wpAny _ _ (call (Value.builtin _) [Value.str _ _, Value.ref _]) _ _ _); k_dflt (refine' join_list (News.isList (by k_asm) (by k_mem)) ?k2 ?k3 ?_; (case k2 => assumption); (case k3 => assumption); intro tj9z kj9z))
  k_with "subscriptTail" => (k_here; (with_reducible show wpAny _ _ (subscriptTail _ _ (Value.ref _) (Value.int (-1) _)) _ _ _); k_dflt (refine' lst_end ?zl ?_; (case zl => exact News.isList (by k_asm) (by k_mem))))
  k_with "call ref" => (k_here; (with_reducible show wpAny _ _ (call (Value.ref 228) _) _ _ _); k_dflt ((refine' SpecC.use (top_spec _ ?m1 ?m2 ?m3) ?k1 ?k2 ?k3 ?k4 ?k5 ?k6 ?k7 ?k8 ?_); k_extra "mine s1"; (case m1 => k_mem); (case m2 => k_mem); (case m3 => k_mem); k_extra "mine s2"))
  k_with "call ref" => (k_here; (with_reducible show wpAny _ _ (call (Value.ref 235) _) _ _ _); k_dflt ((refine' SpecC.use (usual_depth_spec _ ?m1 ?m2 ?m3 ?m4 ?m5 ?m6 ?m7) ?k1 ?k2 ?k3 ?k4 ?k5 ?k6 ?k7 ?k8 ?_); (case k1 => k_asm); (case k2 => k_asm); (case k3 => k_asm); (case k4 => k_asm); (case m1 => k_mem); (case m2 => k_mem); (case m3 => k_mem); (case m4 => k_mem); (case m5 => k_mem); (case m6 => first | rfl | assumption); (case m7 => assumption); (case k5 => k_asm); (case k6 => first | exact rfl | assumption); (case k7 => ktr_room); (case k8 => ktr_units); intro v9z n9z h9z tk9z F9z N9z R9z; obtain ⟨⟨et9z, e9z⟩, e8z⟩ := R9z; subst e9z; (replace e8z := e8z.symm); subst e8z; (try dsimp only); (try k_fold)))
  k_with "call ref" => (k_here; (with_reducible show wpAny _ _ (call (Value.ref 263) _) _ _ _); k_dflt ((refine' SpecC.use (is_tight_spec _ ?m1 ?m2 ?m3 ?m4 ?m5 ?m6 (by with_reducible assumption) (by with_reducible assumption) (by with_reducible assumption) (by with_reducible assumption) (by with_reducible assumption) ?m7 ?m8 (by with_reducible assumption) (by with_reducible assumption)) ?k1 ?k2 ?k3 ?k4 ?k5 ?k6 ?k7 ?k8 ?_); k_extra "mine s1"; (case m1 => k_mem); (case m2 => k_mem); (case m3 => k_mem); (case m4 => k_mem); (case m5 => k_mem); (case m6 => k_mem); (case m7 => first | rfl | assumption); (case m8 => first | rfl | assumption); k_extra "mine s2"))
  k_with "call ref" => (k_here; (with_reducible show wpAny _ _ (call (Value.ref 193) _) _ _ _); k_dflt ((refine' SpecP.use (is_unary_spec _ _ _ _ (by with_reducible assumption) (by with_reducible assumption)) ?k1 ?k2 ?k3 ?k4 ?k5 ?k6 ?k7 ?k8 ?_); k_extra "mine pure"))
  k_with "mine f1" => ((case k1 => k_asm); (case k2 => k_asm); (case k3 => k_asm); (case k4 => first | exact news_tup (news_tup (by k_asm)) | exact news_tup (by k_asm) | k_asm); (case hF => (refine' FmtAt.intro ?zr ?zp ?zb ?zl ?zd; (case zr => assumption); (case zp => assumption); (case zb => assumption); (case zl => assumption); (case zd => assumption))))
  k_with "mine f2" => ((case k5 => k_asm); (case k6 => first | exact rfl | assumption); (case k7 => ktr_room); (case k8 => ktr_units); intro v9z n9z h9z tk9z F9z N9z R9z; obtain ⟨e9z, R9z, p9z⟩ := R9z; subst e9z; obtain ⟨dx9z, ra9z, pa9z, ba9z, bx9z, bd9z, kt9z, kb9z, ar9z, ap9z, nr9z, np9z, nb9z, bef9z, td9z, to9z, ta9z, tw9z, tb9z, ts9z, bl9z, e8z, hr9z, hp9z, hb9z, hl9z, hd9z⟩ := R9z; subst e8z; (replace p9z := (Option.some.inj p9z).symm); subst p9z; (try dsimp only [endRowF, writeF, beginF, writeAtF] at N9z hr9z hp9z hb9z hl9z hd9z);  (try k_sweep); (try dsimp only); (try k_fold))
  k_with "mine f3" => ((case k5 => k_asm); (case k6 => first | exact rfl | assumption); (case k7 => ktr_room); (case k8 => ktr_units); intro v9z n9z h9z tk9z F9z N9z R9z; obtain ⟨e9z, R9z⟩ := R9z; subst e9z; obtain ⟨dx9z, ra9z, pa9z, ba9z, bx9z, bd9z, kt9z, kb9z, ar9z, ap9z, nr9z, np9z, nb9z, bef9z, td9z, to9z, ta9z, tw9z, tb9z, ts9z, bl9z, e8z, hr9z, hp9z, hb9z, hl9z, hd9z⟩ := R9z; subst e8z; (try dsimp only [endRowF, writeF, beginF, writeAtF] at N9z hr9z hp9z hb9z hl9z hd9z);  (try k_sweep); (try dsimp only); (try k_fold))
  k_with "call ref" => (k_here; (with_reducible show wpAny _ _ (call (Value.ref 242) _) _ _ _); k_dflt ((refine' SpecC.use (end_row_spec _ _ _ _ _ ?hF ?hf) ?k1 ?k2 ?k3 ?k4 ?k5 ?k6 ?k7 ?k8 ?_); k_extra "mine f1"; (case hf => (first | assumption | exact Fit.upd (by assumption))); k_extra "mine f2"))
  k_with "call ref" => (k_here; (with_reducible show wpAny _ _ (call (Value.ref 249) _) _ _ _); k_dflt ((refine' SpecC.use (write_spec _ _ _ _ _ _ _ ?hF ?hw (by assumption) (by assumption) (by assumption)) ?k1 ?k2 ?k3 ?k4 ?k5 ?k6 ?k7 ?k8 ?_); k_extra "mine f1"; (case hw => assumption); k_extra "mine f2"))
  trivial
noncomputable def bracketF (S : FS) (d : Int) (k t : Str) : FS := { writeF S d k t with fie := false, bop := (if S.fie = true then true else S.bop), ob := S.ob + 1 }
theorem bracket_spec (w : World) (x : Addr) (rest : Led) (S : FS) (d : Int) (i : Itm) (news : Led) (hF : FmtAt w x rest S news) (hwf : WF S d) (hok : TokOk i.kind i.text)
    (hi1 : (i.ix, instObj 91 i.dx) ∈ rest) (hi2 : (i.dx, itmD w i) ∈ rest) (hhe : S.hea = false) :
    SpecC w 5 347 [.ref x, .ref i.ix] news (fun v n' => v = .none ∧ FmtAt w x rest (bracketF S d i.kind i.text) n' ∧ topA n' = topA news) := by
  obtain ⟨rows, pieces, before, depth, ⟨wo, bas, bod, sec, lab⟩, low, ob, arr, nam, hea, fie, bop, una, sta, bro, arm⟩ := S
  dsimp only at hhe
  subst hhe
  cases fie
  ·
    obtain ⟨dx, ra, pa, ba, bx, bd, kt, kb, ar, ap, nr, np, nb, bef, td, to, ta, tw, tb, ts, bl, rfl, hr, hp, hb, hl, hdis⟩ := hF
    (try dsimp only at hr hp hb hl hdis)
    (try dsimp only)
    unfold SpecC
    intro mean mg mb dp un gd cn cs a ccd cl outer A₀ base h₀ L m s Q E hB9 hF9 hX9 hN9 hT9 hk hd hu hret
    refine wpAny_call ?_
    k_dflt (refine' code_def (binds := [(Str.ofString "self", Value.ref x), (Str.ofString "item", Value.ref i.ix)]) ?k1 ?k2 ?k3 ?k4 ?k5 ?kA ?kF ?kK ?k6 ?k7 ?k8 ?k9 ?kB ?_ ?c2 ?c3 ?c4 ?c5; (case kA => exact rfl); (case kF => exact rfl); (case kK => assumption); (case k1 => k_asm); (case k2 => k_asm); (case k3 => k_asm); (case k4 => k_asm); (case k5 => k_asm); (case k6 => k_is); (case k7 => k_is); (case k8 => ktr_room); (case k9 => exact BindsTo.of_eq rfl); (case c5 => decide); (case kB => exact locs rfl); (case c2 => exact rfl); (case c3 => exact rfl); (case c4 => exact rfl); k_whole; intro g' L' h' FG' F' N' B' X' T'; (try dsimp only))
    refine gen_tok ?_
    intro tk0
    refine noE ?_
    k_steps
    refine' hret _ _ _ _ ?zF ?zN ⟨rfl, FmtAt.intro ?zr ?zp ?zb ?zl ?zd, ?zt⟩
    case zF => k_asm
    case zN => first | k_asm | exact news_tl (by k_asm) | exact news_tl (news_tl (by k_asm))
    case zr => assumption
    case zp => assumption
    case zb => assumption
    case zl => assumption
    case zd => assumption
    case zt => rfl
  ·
    obtain ⟨dx, ra, pa, ba, bx, bd, kt, kb, ar, ap, nr, np, nb, bef, td, to, ta, tw, tb, ts, bl, rfl, hr, hp, hb, hl, hdis⟩ := hF
    (try dsimp only at hr hp hb hl hdis)
    (try dsimp only)
    unfold SpecC
    intro mean mg mb dp un gd cn cs a ccd cl outer A₀ base h₀ L m s Q E hB9 hF9 hX9 hN9 hT9 hk hd hu hret
    refine wpAny_call ?_
    k_dflt (refine' code_def (binds := [(Str.ofString "self", Value.ref x), (Str.ofString "item", Value.ref i.ix)]) ?k1 ?k2 ?k3 ?k4 ?k5 ?kA ?kF ?kK ?k6 ?k7 ?k8 ?k9 ?kB ?_ ?c2 ?c3 ?c4 ?c5; (case kA => exact rfl); (case kF => exact rfl); (case kK => assumption); (case k1 => k_asm); (case k2 => k_asm); (case k3 => k_asm); (case k4 => k_asm); (case k5 => k_asm); (case k6 => k_is); (case k7 => k_is); (case k8 => ktr_room); (case k9 => exact BindsTo.of_eq rfl); (case c5 => decide); (case kB => exact locs rfl); (case c2 => exact rfl); (case c3 => exact rfl); (case c4 => exact rfl); k_whole; intro g' L' h' FG' F' N' B' X' T'; (try dsimp only))
    refine gen_tok ?_
    intro tk0
    refine noE ?_
    k_steps
    refine' hret _ _ _ _ ?zF ?zN ⟨rfl, FmtAt.intro ?zr ?zp ?zb ?zl ?zd, ?zt⟩
    case zF => k_asm
    case zN => first | k_asm | exact news_tl (by k_asm) | exact news_tl (news_tl (by k_asm))
    case zr => assumption
    case zp => assumption
    case zb => assumption
    case zl => assumption
    case zd => assumption
    case zt => rfl
--FMTFS endRowF, writeF, beginF, writeAtF, bracketF
theorem lnsFmt70 : True := by
  w_top off
  k_with_none
  k_with "mine pure" => ((case k1 => k_asm); (case k2 => k_asm); (case k3 => k_asm); (case k4 => k_asm); (case k5 => k_asm); (case k6 => first | exact rfl | assumption); (case k7 => ktr_room); (case k8 => ktr_units); intro t9z h9z tk9z F9z N9z; (try dsimp only); (try k_fold))
  k_with "execs cons" => (k_here; (with_reducible show wpAny _ _ _ _ _ (Shared.mk _ _ _ (_ + _) _)); refine gen_tok ?_; intro tk9z)
  k_with "execs nil" => (k_here; (with_reducible show wpAny _ _ _ _ _ (Shared.mk _ _ _ (_ + _) _)); refine gen_tok ?_; intro tk9z)
  k_with "WiPost" => (dsimp only [WiPost])
  k_with "mine bool" => (simp only [isLetter, isHex, leS, *, decide_true, decide_false, Bool.not_true, Bool.not_false, Bool.and_true, Bool.true_and, Bool.and_false, Bool.false_and, Bool.or_true, Bool.true_or, Bool.or_false, Bool.false_or, not_true_eq_false, not_false_eq_true])
  k_with "WgPost" => (dsimp only [WgPost])
  k_with "mine steps" => repeat' (first | (k_unfold; (try dsimp only)) | (k_end; wrow_close) | ((fail_if_success (with_reducible show wpAny _ _ (exec (Stmt.While _ _ _ _) _) _ _ _)); (fail_if_success (with_reducible show wpAny _ _ (exec (Stmt.For _ _ _ _ _) _) _ _ _)); walk1) | (dsimp only; walk1) | (leave1; walk_say "STEP leave1"; try dsimp only) | fail "no step")
  k_with "call ref" => (k_here; (with_reducible show wpAny _ _ (call (Value.ref 67) _) _ _ _); k_dflt ((refine' SpecP.use (is_digit_spec _ _ _) ?k1 ?k2 ?k3 ?k4 ?k5 ?k6 ?k7 ?k8 ?_); k_extra "mine pure"))
  k_with "call ref" => (k_here; (with_reducible show wpAny _ _ (call (Value.ref 60) _) _ _ _); k_dflt ((refine' SpecP.use (is_letter_spec _ _ _) ?k1 ?k2 ?k3 ?k4 ?k5 ?k6 ?k7 ?k8 ?_); k_extra "mine pure"))
  k_with "call ref" => (k_here; (with_reducible show wpAny _ _ (call (Value.ref 74) _) _ _ _); k_dflt ((refine' SpecP.use (is_hex_spec _ _ _) ?k1 ?k2 ?k3 ?k4 ?k5 ?k6 ?k7 ?k8 ?_); k_extra "mine pure"))
  k_with "call ref" => (k_here; (with_reducible show wpAny _ _ (call (Value.ref 123) _) _ _ _); k_dflt ((refine' SpecP.use (word_end_spec _ _ _ _ _ (by with_reducible assumption) (by first | with_reducible assumption | omega)) ?k1 ?k2 ?k3 ?k4 ?k5 ?k6 ?k7 ?k8 ?_); k_extra "mine pure"))
  k_with "call ref" => (k_here; (with_reducible show wpAny _ _ (call (Value.ref 130) _) _ _ _); k_dflt ((refine' SpecP.use (digits_end_spec _ _ _ _ _ (by with_reducible assumption) (by first | with_reducible assumption | omega)) ?k1 ?k2 ?k3 ?k4 ?k5 ?k6 ?k7 ?k8 ?_); k_extra "mine pure"))
  k_with "call ref" => (k_here; (with_reducible show wpAny _ _ (call (Value.ref 102) _) _ _ _); k_dflt ((refine' SpecP.use (gap_end_spec _ _ _ _ _ (by with_reducible assumption) (by first | with_reducible assumption | omega)) ?k1 ?k2 ?k3 ?k4 ?k5 ?k6 ?k7 ?k8 ?_); k_extra "mine pure"))
  k_with "call ref" => (k_here; (with_reducible show wpAny _ _ (call (Value.ref 137) _) _ _ _); k_dflt ((refine' SpecP.use (number_end_spec _ _ _ _ _ (by with_reducible assumption) (by first | with_reducible assumption | omega)) ?k1 ?k2 ?k3 ?k4 ?k5 ?k6 ?k7 ?k8 ?_); k_extra "mine pure"))
  k_with "call ref" => (k_here; (with_reducible show wpAny _ _ (call (Value.ref 144) _) _ _ _); k_dflt ((refine' SpecP.use (sign_end_spec _ _ _ _ _ (by with_reducible assumption) (by first | with_reducible assumption | omega) (by first | with_reducible assumption | omega)) ?k1 ?k2 ?k3 ?k4 ?k5 ?k6 ?k7 ?k8 ?_); k_extra "mine pure"))
  k_with "call ref" => (k_here; (with_reducible show wpAny _ _ (call (Value.ref 109) _) _ _ _); k_dflt ((refine' SpecP.use (remark_end_spec _ _ _ _ _ (by with_reducible assumption) (by first | with_reducible assumption | omega)) ?k1 ?k2 ?k3 ?k4 ?k5 ?k6 ?k7 ?k8 ?_); k_extra "mine pure"))
  k_with "mine s1" => ((case k1 => k_asm); (case k2 => k_asm); (case k3 => k_asm); (case k4 => k_asm))
  k_with "mine s2" => ((case k5 => k_asm); (case k6 => first | exact rfl | assumption); (case k7 => ktr_room); (case k8 => ktr_units); intro v9z n9z h9z tk9z F9z N9z R9z; obtain ⟨e9z, e8z⟩ := R9z; subst e9z; (replace e8z := e8z.symm); subst e8z; (try dsimp only); (try k_fold))
  k_with "callWith" => (with_reducible refine callWith_method1 ?_)
  k_with "call builtin:len" => (k_here; (with_reducible show wpAny _ _ (call (Value.builtin "len") [Value.ref _]) _ _ _); k_dflt (refine' len_list ?k1 ?k2 ?_; (case k1 => exact News.isList (by k_asm) (by k_mem)); (case k2 => ((try simp only [List.size_toArray, List.length_append, List.length_cons, List.length_nil]); omega)); k_whole))
  k_with "call builtin:list.append" => (k_here; (with_reducible show wpAny _ _ (call (Value.builtin _) [Value.ref _, _]) _ _ _); k_dflt (refine' append_K ?k1 ?k2 ?k3 ?_ ?z; (case k1 => k_asm); (case k2 => k_asm); (case k3 => k_upd); (case z => ((try simp only [List.size_toArray, List.length_append, List.length_cons, List.length_nil]); rw [sizeLine_eq]; omega)); k_whole); intro h9z F9z N9z; (try k_sweep))
  k_with "binaryOp Add str str" => (k_here; (with_reducible show wpAny _ _ (binaryOp Operator.Add (Value.str _ _) (Value.str _ _)) _ _ _); refine' KOpn.add ?z ?_; (case z => ((have e1 := lenSp); (have e2 := lenEm); omega)); intro t9z k9z l9z)
  k_with "call builtin:str.join" => (k_here; (with_reducible show wpAny _ _ (call (Value.builtin _) [Value.str _ _, Value.ref _]) _ _ _); k_dflt (refine' join_list (News.isList (by k_asm) (by k_mem)) ?k2 ?k3 ?_; (case k2 => assumption); (case k3 => assumption); intro tj9z kj9z))
  k_with "subscriptTail" => (k_here; (with_reducible show wpAny _ _ (subscriptTail _ _ (Value.ref _) (Value.int (-1) _)) _ _ _); k_dflt (refine' lst_end ?zl ?_; (case zl => exact News.isList (by k_asm) (by k_mem))))
  k_with "call ref" => (k_here; (with_reducible show wpAny _ _ (call (Value.ref 228) _) _ _ _); k_dflt ((refine' SpecC.use (top_spec _ ?m1 ?m2 ?m3) ?k1 ?k2 ?k3 ?k4 ?k5 ?k6 ?k7 ?k8 ?_); k_extra "mine s1"; (case m1 => k_mem); (case m2 => k_mem); (case m3 => k_mem); k_extra "mine s2"))
  k_with "call ref" => (k_here; (with_reducible show wpAny _ _ (call (Value.ref 235) _) _ _ _); k_dflt ((refine' SpecC.use (usual_depth_spec _ ?m1 ?m2 ?m3 ?m4 ?m5 ?m6 ?m7) ?k1 ?k2 ?k3 ?k4 ?k5 ?k6 ?k7 ?k8 ?_); (case k1 => k_asm); (case k2 => k_asm); (case k3 => k_asm); (case k4 => k_asm); (case m1 => k_mem); (case m2 => k_mem); (case m3 => k_mem); (case m4 => k_mem); (case m5 => k_mem); (case m6 => first | rfl | assumption); (case m7 => assumption); (case k5 => k_asm); (case k6 => first | exact rfl | assumption); (case k7 => ktr_room); (case k8 => ktr_units); intro v9z n9z h9z tk9z F9z N9z R9z; obtain ⟨⟨et9z, e9z⟩, e8z⟩ := R9z; subst e9z; (replace e8z := e8z.symm); subst e8z; (try dsimp only); (try k_fold)))
  k_with "call ref" => (k_here; (with_reducible show wpAny _ _ (call (Value.ref 263) _) _ _ _); k_dflt ((refine' SpecC.use (is_tight_spec _ ?m1 ?m2 ?m3 ?m4 ?m5 ?m6 (by with_reducible assumption) (by with_reducible assumption) (by with_reducible assumption) (by with_reducible assumption) (by with_reducible assumption) ?m7 ?m8 (by with_reducible assumption) (by with_reducible assumption)) ?k1 ?k2 ?k3 ?k4 ?k5 ?k6 ?k7 ?k8 ?_); k_extra "mine s1"; (case m1 => k_mem); (case m2 => k_mem); (case m3 => k_mem); (case m4 => k_mem); (case m5 => k_mem); (case m6 => k_mem); (case m7 => first | rfl | assumption); (case m8 => first | rfl | assumption); k_extra "mine s2"))
  k_with "call ref" => (k_here; (with_reducible show wpAny _ _ (call (Value.ref 193) _) _ _ _); k_dflt ((refine' SpecP.use (is_unary_spec _ _ _ _ (by with_reducible assumption) (by with_reducible assumption)) ?k1 ?k2 ?k3 ?k4 ?k5 ?k6 ?k7 ?k8 ?_); k_extra "mine pure"))
  k_with "mine f1" => ((case k1 => k_asm); (case k2 => k_asm); (case k3 => k_asm); (case k4 => first | exact news_tup (news_tup (by k_asm)) | exact news_tup (by k_asm) | k_asm); (case hF => (refine' FmtAt.intro ?zr ?zp ?zb ?zl ?zd; (case zr => assumption); (case zp => assumption); (case zb => assumption); (case zl => assumption); (case zd => assumption))))
  k_with "mine f2" => ((case k5 => k_asm); (case k6 => first | exact rfl | assumption); (case k7 => ktr_room); (case k8 => ktr_units); intro v9z n9z h9z tk9z F9z N9z R9z; obtain ⟨e9z, R9z, p9z⟩ := R9z; subst e9z; obtain ⟨dx9z, ra9z, pa9z, ba9z, bx9z, bd9z, kt9z, kb9z, ar9z, ap9z, nr9z, np9z, nb9z, bef9z, td9z, to9z, ta9z, tw9z, tb9z, ts9z, bl9z, e8z, hr9z, hp9z, hb9z, hl9z, hd9z⟩ := R9z; subst e8z; (replace p9z := (Option.some.inj p9z).symm); subst p9z; (try dsimp only [endRowF, writeF, beginF, writeAtF, bracketF] at N9z hr9z hp9z hb9z hl9z hd9z);  (try k_sweep); (try dsimp only); (try k_fold))
  k_with "mine f3" => ((case k5 => k_asm); (case k6 => first | exact rfl | assumption); (case k7 => ktr_room); (case k8 => ktr_units); intro v9z n9z h9z tk9z F9z N9z R9z; obtain ⟨e9z, R9z⟩ := R9z; subst e9z; obtain ⟨dx9z, ra9z, pa9z, ba9z, bx9z, bd9z, kt9z, kb9z, ar9z, ap9z, nr9z, np9z, nb9z, bef9z, td9z, to9z, ta9z, tw9z, tb9z, ts9z, bl9z, e8z, hr9z, hp9z, hb9z, hl9z, hd9z⟩ := R9z; subst e8z; (try dsimp only [endRowF, writeF, beginF, writeAtF, bracketF] at N9z hr9z hp9z hb9z hl9z hd9z);  (try k_sweep); (try dsimp only); (try k_fold))
  k_with "call ref" => (k_here; (with_reducible show wpAny _ _ (call (Value.ref 242) _) _ _ _); k_dflt ((refine' SpecC.use (end_row_spec _ _ _ _ _ ?hF ?hf) ?k1 ?k2 ?k3 ?k4 ?k5 ?k6 ?k7 ?k8 ?_); k_extra "mine f1"; (case hf => (first | assumption | exact Fit.upd (by assumption))); k_extra "mine f2"))
  k_with "call ref" => (k_here; (with_reducible show wpAny _ _ (call (Value.ref 249) _) _ _ _); k_dflt ((refine' SpecC.use (write_spec _ _ _ _ _ _ _ ?hF ?hw (by assumption) (by assumption) (by assumption)) ?k1 ?k2 ?k3 ?k4 ?k5 ?k6 ?k7 ?k8 ?_); k_extra "mine f1"; (case hw => assumption); k_extra "mine f2"))
  trivial
noncomputable def nmF (wo sec : Str) : Bool := ((wo == Str.ofString "MODULE") && (sec != Str.ofString "")) || (wo == Str.ofString "RECORD")
noncomputable def finishF (S : FS) : FS := { endRowF S with hea := false, arr := 0, nam := nmF S.top.word S.top.sect }
theorem finish_spec (w : World) (x : Addr) (rest : Led) (S : FS) (d : Int) (news : Led) (hF : FmtAt w x rest S news) (hfit : Fit S) (hud : UD S.top.word S.top.body S.top.sect S.top.base d) :
    SpecC w 4 354 [.ref x] news (fun v n' => v = .none ∧ FmtAt w x rest (finishF S) n' ∧ topA n' = topA news) := by
  obtain ⟨rows, pieces, before, depth, ⟨wo, bas, bod, sec, lab⟩, low, ob, arr, nam, hea, fie, bop, una, sta, bro, arm⟩ := S
  dsimp only at hud
  cases hud with
  | none h1 =>
    subst h1
    obtain ⟨dx, ra, pa, ba, bx, bd, kt, kb, ar, ap, nr, np, nb, bef, td, to, ta, tw, tb, ts, bl, rfl, hr, hp, hb, hl, hdis⟩ := hF
    (try dsimp only at hr hp hb hl hdis)
    (try dsimp only)
    unfold SpecC
    intro mean mg mb dp un gd cn cs a ccd cl outer A₀ base h₀ L m s Q E hB9 hF9 hX9 hN9 hT9 hk hd hu hret
    refine wpAny_call ?_
    k_dflt (refine' code_def (binds := [(Str.ofString "self", Value.ref x)]) ?k1 ?k2 ?k3 ?k4 ?k5 ?kA ?kF ?kK ?k6 ?k7 ?k8 ?k9 ?kB ?_ ?c2 ?c3 ?c4 ?c5; (case kA => exact rfl); (case kF => exact rfl); (case kK => assumption); (case k1 => k_asm); (case k2 => k_asm); (case k3 => k_asm); (case k4 => k_asm); (case k5 => k_asm); (case k6 => k_is); (case k7 => k_is); (case k8 => ktr_room); (case k9 => exact BindsTo.of_eq rfl); (case c5 => decide); (case kB => exact locs rfl); (case c2 => exact rfl); (case c3 => exact rfl); (case c4 => exact rfl); k_whole; intro g' L' h' FG' F' N' B' X' T'; (try dsimp only))
    refine gen_tok ?_
    intro tk0
    refine noE ?_
    k_steps
    refine' hret _ _ _ _ ?zF ?zN ⟨rfl, FmtAt.intro ?zr ?zp ?zb ?zl ?zd, ?zt⟩
    case zF => k_asm
    case zN => first | k_asm | exact news_tl (by k_asm) | exact news_tl (news_tl (by k_asm))
    case zr => assumption
    case zp => assumption
    case zb => assumption
    case zl => assumption
    case zd => assumption
    case zt => rfl
  | modu h1 h2 h3 =>
    subst h1 h2 h3
    obtain ⟨dx, ra, pa, ba, bx, bd, kt, kb, ar, ap, nr, np, nb, bef, td, to, ta, tw, tb, ts, bl, rfl, hr, hp, hb, hl, hdis⟩ := hF
    (try dsimp only at hr hp hb hl hdis)
    (try dsimp only)
    unfold SpecC
    intro mean mg mb dp un gd cn cs a ccd cl outer A₀ base h₀ L m s Q E hB9 hF9 hX9 hN9 hT9 hk hd hu hret
    refine wpAny_call ?_
    k_dflt (refine' code_def (binds := [(Str.ofString "self", Value.ref x)]) ?k1 ?k2 ?k3 ?k4 ?k5 ?kA ?kF ?kK ?k6 ?k7 ?k8 ?k9 ?kB ?_ ?c2 ?c3 ?c4 ?c5; (case kA => exact rfl); (case kF => exact rfl); (case kK => assumption); (case k1 => k_asm); (case k2 => k_asm); (case k3 => k_asm); (case k4 => k_asm); (case k5 => k_asm); (case k6 => k_is); (case k7 => k_is); (case k8 => ktr_room); (case k9 => exact BindsTo.of_eq rfl); (case c5 => decide); (case kB => exact locs rfl); (case c2 => exact rfl); (case c3 => exact rfl); (case c4 => exact rfl); k_whole; intro g' L' h' FG' F' N' B' X' T'; (try dsimp only))
    refine gen_tok ?_
    intro tk0
    refine noE ?_
    k_steps
    refine' hret _ _ _ _ ?zF ?zN ⟨rfl, FmtAt.intro ?zr ?zp ?zb ?zl ?zd, ?zt⟩
    case zF => k_asm
    case zN => first | k_asm | exact news_tl (by k_asm) | exact news_tl (news_tl (by k_asm))
    case zr => assumption
    case zp => assumption
    case zb => assumption
    case zl => assumption
    case zd => assumption
    case zt => rfl
  | modt h1 h2 h3 =>
    subst h1 h2 h3
    obtain ⟨dx, ra, pa, ba, bx, bd, kt, kb, ar, ap, nr, np, nb, bef, td, to, ta, tw, tb, ts, bl, rfl, hr, hp, hb, hl, hdis⟩ := hF
    (try dsimp only at hr hp hb hl hdis)
    (try dsimp only)
    unfold SpecC
    intro mean mg mb dp un gd cn cs a ccd cl outer A₀ base h₀ L m s Q E hB9 hF9 hX9 hN9 hT9 hk hd hu hret
    refine wpAny_call ?_
    k_dflt (refine' code_def (binds := [(Str.ofString "self", Value.ref x)]) ?k1 ?k2 ?k3 ?k4 ?k5 ?kA ?kF ?kK ?k6 ?k7 ?k8 ?k9 ?kB ?_ ?c2 ?c3 ?c4 ?c5; (case kA => exact rfl); (case kF => exact rfl); (case kK => assumption); (case k1 => k_asm); (case k2 => k_asm); (case k3 => k_asm); (case k4 => k_asm); (case k5 => k_asm); (case k6 => k_is); (case k7 => k_is); (case k8 => ktr_room); (case k9 => exact BindsTo.of_eq rfl); (case c5 => decide); (case kB => exact locs rfl); (case c2 => exact rfl); (case c3 => exact rfl); (case c4 => exact rfl); k_whole; intro g' L' h' FG' F' N' B' X' T'; (try dsimp only))
    refine gen_tok ?_
    intro tk0
    refine noE ?_
    k_steps
    refine' hret _ _ _ _ ?zF ?zN ⟨rfl, FmtAt.intro ?zr ?zp ?zb ?zl ?zd, ?zt⟩
    case zF => k_asm
    case zN => first | k_asm | exact news_tl (by k_asm) | exact news_tl (news_tl (by k_asm))
    case zr => assumption
    case zp => assumption
    case zb => assumption
    case zl => assumption
    case zd => assumption
    case zt => rfl
  | reco h1 =>
    subst h1
    obtain ⟨dx, ra, pa, ba, bx, bd, kt, kb, ar, ap, nr, np, nb, bef, td, to, ta, tw, tb, ts, bl, rfl, hr, hp, hb, hl, hdis⟩ := hF
    (try dsimp only at hr hp hb hl hdis)
    (try dsimp only)
    unfold SpecC
    intro mean mg mb dp un gd cn cs a ccd cl outer A₀ base h₀ L m s Q E hB9 hF9 hX9 hN9 hT9 hk hd hu hret
    refine wpAny_call ?_
    k_dflt (refine' code_def (binds := [(Str.ofString "self", Value.ref x)]) ?k1 ?k2 ?k3 ?k4 ?k5 ?kA ?kF ?kK ?k6 ?k7 ?k8 ?k9 ?kB ?_ ?c2 ?c3 ?c4 ?c5; (case kA => exact rfl); (case kF => exact rfl); (case kK => assumption); (case k1 => k_asm); (case k2 => k_asm); (case k3 => k_asm); (case k4 => k_asm); (case k5 => k_asm); (case k6 => k_is); (case k7 => k_is); (case k8 => ktr_room); (case k9 => exact BindsTo.of_eq rfl); (case c5 => decide); (case kB => exact locs rfl); (case c2 => exact rfl); (case c3 => exact rfl); (case c4 => exact rfl); k_whole; intro g' L' h' FG' F' N' B' X' T'; (try dsimp only))
    refine gen_tok ?_
    intro tk0
    refine noE ?_
    k_steps
    refine' hret _ _ _ _ ?zF ?zN ⟨rfl, FmtAt.intro ?zr ?zp ?zb ?zl ?zd, ?zt⟩
    case zF => k_asm
    case zN => first | k_asm | exact news_tl (by k_asm) | exact news_tl (news_tl (by k_asm))
    case zr => assumption
    case zp => assumption
    case zb => assumption
    case zl => assumption
    case zd => assumption
    case zt => rfl
--FMTFS endRowF, writeF, beginF, writeAtF, bracketF, finishF
theorem lnsSgn0 : True := by
  w_top off
  k_with_none
  k_with "mine pure" => ((case k1 => k_asm); (case k2 => k_asm); (case k3 => k_asm); (case k4 => k_asm); (case k5 => k_asm); (case k6 => first | exact rfl | assumption); (case k7 => ktr_room); (case k8 => ktr_units); intro t9z h9z tk9z F9z N9z; (try dsimp only); (try k_fold))
  k_with "execs cons" => (k_here; (with_reducible show wpAny _ _ _ _ _ (Shared.mk _ _ _ (_ + _) _)); refine gen_tok ?_; intro tk9z)
  k_with "execs nil" => (k_here; (with_reducible show wpAny _ _ _ _ _ (Shared.mk _ _ _ (_ + _) _)); refine gen_tok ?_; intro tk9z)
  k_with "WiPost" => (dsimp only [WiPost])
  k_with "mine bool" => (simp only [isLetter, isHex, leS, *, decide_true, decide_false, Bool.not_true, Bool.not_false, Bool.and_true, Bool.true_and, Bool.and_false, Bool.false_and, Bool.or_true, Bool.true_or, Bool.or_false, Bool.false_or, not_true_eq_false, not_false_eq_true])
  k_with "WgPost" => (dsimp only [WgPost])
  k_with "mine steps" => repeat' (first | (k_unfold; (try dsimp only)) | (k_end; wrow_close) | ((fail_if_success (with_reducible show wpAny _ _ (exec (Stmt.While _ _ _ _) _) _ _ _)); (fail_if_success (with_reducible show wpAny _ _ (exec (Stmt.For _ _ _ _ _) _) _ _ _)); walk1) | (dsimp only; walk1) | (leave1; walk_say "STEP leave1"; try dsimp only) | fail "no step")
  k_with "call ref" => (k_here; (with_reducible show wpAny _ _ (call (Value.ref 67) _) _ _ _); k_dflt ((refine' SpecP.use (is_digit_spec _ _ _) ?k1 ?k2 ?k3 ?k4 ?k5 ?k6 ?k7 ?k8 ?_); k_extra "mine pure"))
  k_with "call ref" => (k_here; (with_reducible show wpAny _ _ (call (Value.ref 60) _) _ _ _); k_dflt ((refine' SpecP.use (is_letter_spec _ _ _) ?k1 ?k2 ?k3 ?k4 ?k5 ?k6 ?k7 ?k8 ?_); k_extra "mine pure"))
  k_with "call ref" => (k_here; (with_reducible show wpAny _ _ (call (Value.ref 74) _) _ _ _); k_dflt ((refine' SpecP.use (is_hex_spec _ _ _) ?k1 ?k2 ?k3 ?k4 ?k5 ?k6 ?k7 ?k8 ?_); k_extra "mine pure"))
  k_with "call ref" => (k_here; (with_reducible show wpAny _ _ (call (Value.ref 123) _) _ _ _); k_dflt ((refine' SpecP.use (word_end_spec _ _ _ _ _ (by with_reducible assumption) (by first | with_reducible assumption | omega)) ?k1 ?k2 ?k3 ?k4 ?k5 ?k6 ?k7 ?k8 ?_); k_extra "mine pure"))
  k_with "call ref" => (k_here; (with_reducible show wpAny _ _ (call (Value.ref 130) _) _ _ _); k_dflt ((refine' SpecP.use (digits_end_spec _ _ _ _ _ (by with_reducible assumption) (by first | with_reducible assumption | omega)) ?k1 ?k2 ?k3 ?k4 ?k5 ?k6 ?k7 ?k8 ?_); k_extra "mine pure"))
  k_with "call ref" => (k_here; (with_reducible show wpAny _ _ (call (Value.ref 102) _) _ _ _); k_dflt ((refine' SpecP.use (gap_end_spec _ _ _ _ _ (by with_reducible assumption) (by first | with_reducible assumption | omega)) ?k1 ?k2 ?k3 ?k4 ?k5 ?k6 ?k7 ?k8 ?_); k_extra "mine pure"))
  k_with "call ref" => (k_here; (with_reducible show wpAny _ _ (call (Value.ref 137) _) _ _ _); k_dflt ((refine' SpecP.use (number_end_spec _ _ _ _ _ (by with_reducible assumption) (by first | with_reducible assumption | omega)) ?k1 ?k2 ?k3 ?k4 ?k5 ?k6 ?k7 ?k8 ?_); k_extra "mine pure"))
  k_with "call ref" => (k_here; (with_reducible show wpAny _ _ (call (Value.ref 144) _) _ _ _); k_dflt ((refine' SpecP.use (sign_end_spec _ _ _ _ _ (by with_reducible assumption) (by first | with_reducible assumption | omega) (by first | with_reducible assumption | omega)) ?k1 ?k2 ?k3 ?k4 ?k5 ?k6 ?k7 ?k8 ?_); k_extra "mine pure"))
  k_with "call ref" => (k_here; (with_reducible show wpAny _ _ (call (Value.ref 109) _) _ _ _); k_dflt ((refine' SpecP.use (remark_end_spec _ _ _ _ _ (by with_reducible assumption) (by first | with_reducible assumption | omega)) ?k1 ?k2 ?k3 ?k4 ?k5 ?k6 ?k7 ?k8 ?_); k_extra "mine pure"))
  k_with "mine s1" => ((case k1 => k_asm); (case k2 => k_asm); (case k3 => k_asm); (case k4 => k_asm))
  k_with "mine s2" => ((case k5 => k_asm); (case k6 => first | exact rfl | assumption); (case k7 => ktr_room); (case k8 => ktr_units); intro v9z n9z h9z tk9z F9z N9z R9z; obtain ⟨e9z, e8z⟩ := R9z; subst e9z; (replace e8z := e8z.symm); subst e8z; (try dsimp only); (try k_fold))
  k_with "callWith" => (with_reducible refine callWith_method1 ?_)
  k_with "call builtin:len" => (k_here; (with_reducible show wpAny _ _ (call (Value.builtin "len") [Value.ref _]) _ _ _); k_dflt (refine' len_list ?k1 ?k2 ?_; (case k1 => exact News.isList (by k_asm) (by k_mem)); (case k2 => ((try simp only [List.size_toArray, List.length_append, List.length_cons, List.length_nil]); omega)); k_whole))
  k_with "call builtin:list.append" => (k_here; (with_reducible show wpAny _ _ (call (Value.builtin _) [Value.ref _, _]) _ _ _); k_dflt (refine' append_K ?k1 ?k2 ?k3 ?_ ?z; (case k1 => k_asm); (case k2 => k_asm); (case k3 => k_upd); (case z => ((try simp only [List.size_toArray, List.length_append, List.length_cons, List.length_nil]); rw [sizeLine_eq]; omega)); k_whole); intro h9z F9z N9z; (try k_sweep))
  k_with "binaryOp Add str str" => (k_here; (with_reducible show wpAny _ _ (binaryOp Operator.Add (Value.str _ _) (Value.str _ _)) _ _ _); refine' KOpn.add ?z ?_; (case z => ((have e1 := lenSp); (have e2 := lenEm); omega)); intro t9z k9z l9z)
  k_with "call builtin:str.join" => (k_here; (with_reducible show wpAny _ _ (call (Value.builtin _) [Value.str _ _, Value.ref _]) _ _ _); k_dflt (refine' join_list (News.isList (by k_asm) (by k_mem)) ?k2 ?k3 ?_; (case k2 => assumption); (case k3 => assumption); intro tj9z kj9z))
  k_with "subscriptTail" => (k_here; (with_reducible show wpAny _ _ (subscriptTail _ _ (Value.ref _) (Value.int (-1) _)) _ _ _); k_dflt (refine' lst_end ?zl ?_; (case zl => exact News.isList (by k_asm) (by k_mem))))
  k_with "call ref" => (k_here; (with_reducible show wpAny _ _ (call (Value.ref 228) _) _ _ _); k_dflt ((refine' SpecC.use (top_spec _ ?m1 ?m2 ?m3) ?k1 ?k2 ?k3 ?k4 ?k5 ?k6 ?k7 ?k8 ?_); k_extra "mine s1"; (case m1 => k_mem); (case m2 => k_mem); (case m3 => k_mem); k_extra "mine s2"))
  k_with "call ref" => (k_here; (with_reducible show wpAny _ _ (call (Value.ref 235) _) _ _ _); k_dflt ((refine' SpecC.use (usual_depth_spec _ ?m1 ?m2 ?m3 ?m4 ?m5 ?m6 ?m7) ?k1 ?k2 ?k3 ?k4 ?k5 ?k6 ?k7 ?k8 ?_); (case k1 => k_asm); (case k2 => k_asm); (case k3 => k_asm); (case k4 => k_asm); (case m1 => k_mem); (case m2 => k_mem); (case m3 => k_mem); (case m4 => k_mem); (case m5 => k_mem); (case m6 => first | rfl | assumption); (case m7 => assumption); (case k5 => k_asm); (case k6 => first | exact rfl | assumption); (case k7 => ktr_room); (case k8 => ktr_units); intro v9z n9z h9z tk9z F9z N9z R9z; obtain ⟨⟨et9z, e9z⟩, e8z⟩ := R9z; subst e9z; (replace e8z := e8z.symm); subst e8z; (try dsimp only); (try k_fold)))
  k_with "call ref" => (k_here; (with_reducible show wpAny _ _ (call (Value.ref 263) _) _ _ _); k_dflt ((refine' SpecC.use (is_tight_spec _ ?m1 ?m2 ?m3 ?m4 ?m5 ?m6 (by with_reducible assumption) (by with_reducible assumption) (by with_reducible assumption) (by with_reducible assumption) (by with_reducible assumption) ?m7 ?m8 (by with_reducible assumption) (by with_reducible assumption)) ?k1 ?k2 ?k3 ?k4 ?k5 ?k6 ?k7 ?k8 ?_); k_extra "mine s1"; (case m1 => k_mem); (case m2 => k_mem); (case m3 => k_mem); (case m4 => k_mem); (case m5 => k_mem); (case m6 => k_mem); (case m7 => first | rfl | assumption); (case m8 => first | rfl | assumption); k_extra "mine s2"))
  k_with "call ref" => (k_here; (with_reducible show wpAny _ _ (call (Value.ref 193) _) _ _ _); k_dflt ((refine' SpecP.use (is_unary_spec _ _ _ _ (by with_reducible assumption) (by with_reducible assumption)) ?k1 ?k2 ?k3 ?k4 ?k5 ?k6 ?k7 ?k8 ?_); k_extra "mine pure"))
  k_with "mine f1" => ((case k1 => k_asm); (case k2 => k_asm); (case k3 => k_asm); (case k4 => first | exact news_tup (news_tup (by k_asm)) | exact news_tup (by k_asm) | k_asm); (case hF => (refine' FmtAt.intro ?zr ?zp ?zb ?zl ?zd; (case zr => assumption); (case zp => assumption); (case zb => assumption); (case zl => assumption); (case zd => assumption))))
  k_with "mine f2" => ((case k5 => k_asm); (case k6 => first | exact rfl | assumption); (case k7 => ktr_room); (case k8 => ktr_units); intro v9z n9z h9z tk9z F9z N9z R9z; obtain ⟨e9z, R9z, p9z⟩ := R9z; subst e9z; obtain ⟨dx9z, ra9z, pa9z, ba9z, bx9z, bd9z, kt9z, kb9z, ar9z, ap9z, nr9z, np9z, nb9z, bef9z, td9z, to9z, ta9z, tw9z, tb9z, ts9z, bl9z, e8z, hr9z, hp9z, hb9z, hl9z, hd9z⟩ := R9z; subst e8z; (replace p9z := (Option.some.inj p9z).symm); subst p9z; (try dsimp only [endRowF, writeF, beginF, writeAtF, bracketF, finishF] at N9z hr9z hp9z hb9z hl9z hd9z);  (try k_sweep); (try dsimp only); (try k_fold))
  k_with "mine f3" => ((case k5 => k_asm); (case k6 => first | exact rfl | assumption); (case k7 => ktr_room); (case k8 => ktr_units); intro v9z n9z h9z tk9z F9z N9z R9z; obtain ⟨e9z, R9z⟩ := R9z; subst e9z; obtain ⟨dx9z, ra9z, pa9z, ba9z, bx9z, bd9z, kt9z, kb9z, ar9z, ap9z, nr9z, np9z, nb9z, bef9z, td9z, to9z, ta9z, tw9z, tb9z, ts9z, bl9z, e8z, hr9z, hp9z, hb9z, hl9z, hd9z⟩ := R9z; subst e8z; (try dsimp only [endRowF, writeF, beginF, writeAtF, bracketF, finishF] at N9z hr9z hp9z hb9z hl9z hd9z);  (try k_sweep); (try dsimp only); (try k_fold))
  k_with "call ref" => (k_here; (with_reducible show wpAny _ _ (call (Value.ref 242) _) _ _ _); k_dflt ((refine' SpecC.use (end_row_spec _ _ _ _ _ ?hF ?hf) ?k1 ?k2 ?k3 ?k4 ?k5 ?k6 ?k7 ?k8 ?_); k_extra "mine f1"; (case hf => (first | assumption | exact Fit.upd (by assumption))); k_extra "mine f2"))
  k_with "call ref" => (k_here; (with_reducible show wpAny _ _ (call (Value.ref 249) _) _ _ _); k_dflt ((refine' SpecC.use (write_spec _ _ _ _ _ _ _ ?hF ?hw (by assumption) (by assumption) (by assumption)) ?k1 ?k2 ?k3 ?k4 ?k5 ?k6 ?k7 ?k8 ?_); k_extra "mine f1"; (case hw => assumption); k_extra "mine f2"))
  k_with "execs cons" => (k_here; (with_reducible rename News _ _ _ ((_, { cls := Value.type "tuple", data := Data.seq _ }) :: _) => zN9z); (replace zN9z := news_tup zN9z))
  k_with "execs nil" => (k_here; (with_reducible rename News _ _ _ ((_, { cls := Value.type "tuple", data := Data.seq _ }) :: _) => zN9z); (replace zN9z := news_tup zN9z))
  k_with "call ref" => (k_here; (with_reducible show wpAny _ _ (call (Value.ref 284) _) _ _ _); k_dflt ((refine' SpecC.use (begin_fields_spec _ _ _ _ _ ?hF ?hf) ?k1 ?k2 ?k3 ?k4 ?k5 ?k6 ?k7 ?k8 ?_); k_extra "mine f1"; (case hf => (first | assumption | exact Fit.upd (by assumption))); k_extra "mine f2"))
  k_with "call ref" => (k_here; (with_reducible show wpAny _ _ (call (Value.ref 347) _) _ _ _); k_dflt ((refine' SpecC.use (bracket_spec _ _ _ _ _ _ _ ?hF ?hw (by assumption) (by assumption) (by assumption) ?hh) ?k1 ?k2 ?k3 ?k4 ?k5 ?k6 ?k7 ?k8 ?_); k_extra "mine f1"; (case hw => assumption); (case hh => first | rfl | assumption); k_extra "mine f2"))
  k_with "call ref" => (k_here; (with_reducible show wpAny _ _ (call (Value.ref 354) _) _ _ _); k_dflt ((refine' SpecC.use (finish_spec _ _ _ _ _ _ ?hF ?hf ?hu) ?k1 ?k2 ?k3 ?k4 ?k5 ?k6 ?k7 ?k8 ?_); k_extra "mine f1"; (case hf => (first | assumption | exact Fit.upd (by assumption))); (case hu => assumption); k_extra "mine f2"))
  trivial
theorem sign_open_spec (w : World) (x : Addr) (rest : Led) (S : FS) (d : Int) (i : Itm) (news : Led) (hF : FmtAt w x rest S news) (hwf : WF S d) (hok : TokOk i.kind i.text)
    (hi1 : (i.ix, instObj 91 i.dx) ∈ rest) (hi2 : (i.dx, itmD w i) ∈ rest) (hit : i.text = Str.ofString "(") (hhe : S.hea = false) :
    SpecC w 6 340 [.ref x, .ref i.ix] news (fun v n' => v = .none ∧ FmtAt w x rest (bracketF S d i.kind i.text) n' ∧ topA n' = topA news) := by
  have q1 : (i.text == Str.ofString "|") = false := by rw [hit]; decide +kernel
  have q2 : ([Str.ofString "(", Str.ofString "[", Str.ofString "{"].any fun x => x == i.text) = true := by rw [hit]; decide +kernel
  clear hit
  obtain ⟨rows, pieces, before, depth, ⟨wo, bas, bod, sec, lab⟩, low, ob, arr, nam, hea, fie, bop, una, sta, bro, arm⟩ := S
  dsimp only at hhe
  subst hhe
  obtain ⟨dx, ra, pa, ba, bx, bd, kt, kb, ar, ap, nr, np, nb, bef, td, to, ta, tw, tb, ts, bl, rfl, hr, hp, hb, hl, hdis⟩ := hF
  (try dsimp only at hr hp hb hl hdis)
  (try dsimp only)
  unfold SpecC
  intro mean mg mb dp un gd cn cs a ccd cl outer A₀ base h₀ L m s Q E hB9 hF9 hX9 hN9 hT9 hk hd hu hret
  refine wpAny_call ?_
  k_dflt (refine' code_def (binds := [(Str.ofString "self", Value.ref x), (Str.ofString "item", Value.ref i.ix)]) ?k1 ?k2 ?k3 ?k4 ?k5 ?kA ?kF ?kK ?k6 ?k7 ?k8 ?k9 ?kB ?_ ?c2 ?c3 ?c4 ?c5; (case kA => exact rfl); (case kF => exact rfl); (case kK => assumption); (case k1 => k_asm); (case k2 => k_asm); (case k3 => k_asm); (case k4 => k_asm); (case k5 => k_asm); (case k6 => k_is); (case k7 => k_is); (case k8 => ktr_room); (case k9 => exact BindsTo.of_eq rfl); (case c5 => decide); (case kB => exact locs rfl); (case c2 => exact rfl); (case c3 => exact rfl); (case c4 => exact rfl); k_whole; intro g' L' h' FG' F' N' B' X' T'; (try dsimp only))
  refine gen_tok ?_
  intro tk0
  refine noE ?_
  k_steps
  refine' hret _ _ _ _ ?zF ?zN ⟨rfl, FmtAt.intro ?zr ?zp ?zb ?zl ?zd, ?zt⟩
  case zF => k_asm
  case zN => first | k_asm | exact news_tl (by k_asm) | exact news_tl (news_tl (by k_asm))
  case zr => assumption
  case zp => assumption
  case zb => assumption
  case zl => assumption
  case zd => assumption
  case zt => rfl
--FMTFS endRowF, writeF, beginF, writeAtF, bracketF, finishF
theorem lnsSgn20 : True := by
  w_top off
  k_with_none
  k_with "mine pure" => ((case k1 => k_asm); (case k2 => k_asm); (case k3 => k_asm); (case k4 => k_asm); (case k5 => k_asm); (case k6 => first | exact rfl | assumption); (case k7 => ktr_room); (case k8 => ktr_units); intro t9z h9z tk9z F9z N9z; (try dsimp only); (try k_fold))
  k_with "execs cons" => (k_here; (with_reducible show wpAny _ _ _ _ _ (Shared.mk _ _ _ (_ + _) _)); refine gen_tok ?_; intro tk9z)
  k_with "execs nil" => (k_here; (with_reducible show wpAny _ _ _ _ _ (Shared.mk _ _ _ (_ + _) _)); refine gen_tok ?_; intro tk9z)
  k_with "WiPost" => (dsimp only [WiPost])
  k_with "mine bool" => (simp only [isLetter, isHex, leS, *, decide_true, decide_false, Bool.not_true, Bool.not_false, Bool.and_true, Bool.true_and, Bool.and_false, Bool.false_and, Bool.or_true, Bool.true_or, Bool.or_false, Bool.false_or, not_true_eq_false, not_false_eq_true])
  k_with "WgPost" => (dsimp only [WgPost])
  k_with "mine steps" => repeat' (first | (k_unfold; (try dsimp only)) | (k_end; wrow_close) | ((fail_if_success (with_reducible show wpAny _ _ (exec (Stmt.While _ _ _ _) _) _ _ _)); (fail_if_success (with_reducible show wpAny _ _ (exec (Stmt.For _ _ _ _ _) _) _ _ _)); walk1) | (dsimp only; walk1) | (leave1; walk_say "STEP leave1"; try dsimp only) | fail "no step")
  k_with "call ref" => (k_here; (with_reducible show wpAny _ _ (call (Value.ref 67) _) _ _ _); k_dflt ((refine' SpecP.use (is_digit_spec _ _ _) ?k1 ?k2 ?k3 ?k4 ?k5 ?k6 ?k7 ?k8 ?_); k_extra "mine pure"))
  k_with "call ref" => (k_here; (with_reducible show wpAny _ _ (call (Value.ref 60) _) _ _ _); k_dflt ((refine' SpecP.use (is_letter_spec _ _ _) ?k1 ?k2 ?k3 ?k4 ?k5 ?k6 ?k7 ?k8 ?_); k_extra "mine pure"))
  k_with "call ref" => (k_here; (with_reducible show wpAny _ _ (call (Value.ref 74) _) _ _ _); k_dflt ((refine' SpecP.use (is_hex_spec _ _ _) ?k1 ?k2 ?k3 ?k4 ?k5 ?k6 ?k7 ?k8 ?_); k_extra "mine pure"))
  k_with "call ref" => (k_here; (with_reducible show wpAny _ _ (call (Value.ref 123) _) _ _ _); k_dflt ((refine' SpecP.use (word_end_spec _ _ _ _ _ (by with_reducible assumption) (by first | with_reducible assumption | omega)) ?k1 ?k2 ?k3 ?k4 ?k5 ?k6 ?k7 ?k8 ?_); k_extra "mine pure"))
  k_with "call ref" => (k_here; (with_reducible show wpAny _ _ (call (Value.ref 130) _) _ _ _); k_dflt ((refine' SpecP.use (digits_end_spec _ _ _ _ _ (by with_reducible assumption) (by first | with_reducible assumption | omega)) ?k1 ?k2 ?k3 ?k4 ?k5 ?k6 ?k7 ?k8 ?_); k_extra "mine pure"))
  k_with "call ref" => (k_here; (with_reducible show wpAny _ _ (call (Value.ref 102) _) _ _ _); k_dflt ((refine' SpecP.use (gap_end_spec _ _ _ _ _ (by with_reducible assumption) (by first | with_reducible assumption | omega)) ?k1 ?k2 ?k3 ?k4 ?k5 ?k6 ?k7 ?k8 ?_); k_extra "mine pure"))
  k_with "call ref" => (k_here; (with_reducible show wpAny _ _ (call (Value.ref 137) _) _ _ _); k_dflt ((refine' SpecP.use (number_end_spec _ _ _ _ _ (by with_reducible assumption) (by first | with_reducible assumption | omega)) ?k1 ?k2 ?k3 ?k4 ?k5 ?k6 ?k7 ?k8 ?_); k_extra "mine pure"))
  k_with "call ref" => (k_here; (with_reducible show wpAny _ _ (call (Value.ref 144) _) _ _ _); k_dflt ((refine' SpecP.use (sign_end_spec _ _ _ _ _ (by with_reducible assumption) (by first | with_reducible assumption | omega) (by first | with_reducible assumption | omega)) ?k1 ?k2 ?k3 ?k4 ?k5 ?k6 ?k7 ?k8 ?_); k_extra "mine pure"))
  k_with "call ref" => (k_here; (with_reducible show wpAny _ _ (call (Value.ref 109) _) _ _ _); k_dflt ((refine' SpecP.use (remark_end_spec _ _ _ _ _ (by with_reducible assumption) (by first | with_reducible assumption | omega)) ?k1 ?k2 ?k3 ?k4 ?k5 ?k6 ?k7 ?k8 ?_); k_extra "mine pure"))
  k_with "mine s1" => ((case k1 => k_asm); (case k2 => k_asm); (case k3 => k_asm); (case k4 => k_asm))
  k_with "mine s2" => ((case k5 => k_asm); (case k6 => first | exact rfl | assumption); (case k7 => ktr_room); (case k8 => ktr_units); intro v9z n9z h9z tk9z F9z N9z R9z; obtain ⟨e9z, e8z⟩ := R9z; subst e9z; (replace e8z := e8z.symm); subst e8z; (try dsimp only); (try k_fold))
  k_with "callWith" => (with_reducible refine callWith_method1 ?_)
  k_with "call builtin:len" => (k_here; (with_reducible show wpAny _ _ (call (Value.builtin "len") [Value.ref _]) _ _ _); k_dflt (refine' len_list ?k1 ?k2 ?_; (case k1 => exact News.isList (by k_asm) (by k_mem)); (case k2 => ((try simp only [List.size_toArray, List.length_append, List.length_cons, List.length_nil]); omega)); k_whole))
  k_with "call builtin:list.append" => (k_here; (with_reducible show wpAny _ _ (call (Value.builtin _) [Value.ref _, _]) _ _ _); k_dflt (refine' append_K ?k1 ?k2 ?k3 ?_ ?z; (case k1 => k_asm); (case k2 => k_asm); (case k3 => k_upd); (case z => ((try simp only [List.size_toArray, List.length_append, List.length_cons, List.length_nil]); rw [sizeLine_eq]; omega)); k_whole); intro h9z F9z N9z; (try k_sweep))
  k_with "binaryOp Add str str" => (k_here; (with_reducible show wpAny _ _ (binaryOp Operator.Add (Value.str _ _) (Value.str _ _)) _ _ _); refine' KOpn.add ?z ?_; (case z => ((have e1 := lenSp); (have e2 := lenEm); omega)); intro t9z k9z l9z)
  k_with "call builtin:str.join" => (k_here; (with_reducible show wpAny _ _ (call (Value.builtin _) [Value.str _ _, Value.ref _]) _ _ _); k_dflt (refine' join_list (News.isList (by k_asm) (by k_mem)) ?k2 ?k3 ?_; (case k2 => assumption); (case k3 => assumption); intro tj9z kj9z))
  k_with "subscriptTail" => (k_here; (with_reducible show wpAny _ _ (subscriptTail _ _ (Value.ref _) (Value.int (-1) _)) _ _ _); k_dflt (refine' lst_end ?zl ?_; (case zl => exact News.isList (by k_asm) (by k_mem))))
  k_with "call ref" => (k_here; (with_reducible show wpAny _ _ (call (Value.ref 228) _) _ _ _); k_dflt ((refine' SpecC.use (top_spec _ ?m1 ?m2 ?m3) ?k1 ?k2 ?k3 ?k4 ?k5 ?k6 ?k7 ?k8 ?_); k_extra "mine s1"; (case m1 => k_mem); (case m2 => k_mem); (case m3 => k_mem); k_extra "mine s2"))
  k_with "call ref" => (k_here; (with_reducible show wpAny _ _ (call (Value.ref 235) _) _ _ _); k_dflt ((refine' SpecC.use (usual_depth_spec _ ?m1 ?m2 ?m3 ?m4 ?m5 ?m6 ?m7) ?k1 ?k2 ?k3 ?k4 ?k5 ?k6 ?k7 ?k8 ?_); (case k1 => k_asm); (case k2 => k_asm); (case k3 => k_asm); (case k4 => k_asm); (case m1 => k_mem); (case m2 => k_mem); (case m3 => k_mem); (case m4 => k_mem); (case m5 => k_mem); (case m6 => first | rfl | assumption); (case m7 => assumption); (case k5 => k_asm); (case k6 => first | exact rfl | assumption); (case k7 => ktr_room); (case k8 => ktr_units); intro v9z n9z h9z tk9z F9z N9z R9z; obtain ⟨⟨et9z, e9z⟩, e8z⟩ := R9z; subst e9z; (replace e8z := e8z.symm); subst e8z; (try dsimp only); (try k_fold)))
  k_with "call ref" => (k_here; (with_reducible show wpAny _ _ (call (Value.ref 263) _) _ _ _); k_dflt ((refine' SpecC.use (is_tight_spec _ ?m1 ?m2 ?m3 ?m4 ?m5 ?m6 (by with_reducible assumption) (by with_reducible assumption) (by with_reducible assumption) (by with_reducible assumption) (by with_reducible assumption) ?m7 ?m8 (by with_reducible assumption) (by with_reducible assumption)) ?k1 ?k2 ?k3 ?k4 ?k5 ?k6 ?k7 ?k8 ?_); k_extra "mine s1"; (case m1 => k_mem); (case m2 => k_mem); (case m3 => k_mem); (case m4 => k_mem); (case m5 => k_mem); (case m6 => k_mem); (case m7 => first | rfl | assumption); (case m8 => first | rfl | assumption); k_extra "mine s2"))
  k_with "call ref" => (k_here; (with_reducible show wpAny _ _ (call (Value.ref 193) _) _ _ _); k_dflt ((refine' SpecP.use (is_unary_spec _ _ _ _ (by with_reducible assumption) (by with_reducible assumption)) ?k1 ?k2 ?k3 ?k4 ?k5 ?k6 ?k7 ?k8 ?_); k_extra "mine pure"))
  k_with "mine f1" => ((case k1 => k_asm); (case k2 => k_asm); (case k3 => k_asm); (case k4 => first | exact news_tup (news_tup (by k_asm)) | exact news_tup (by k_asm) | k_asm); (case hF => (refine' FmtAt.intro ?zr ?zp ?zb ?zl ?zd; (case zr => assumption); (case zp => assumption); (case zb => assumption); (case zl => assumption); (case zd => assumption))))
  k_with "mine f2" => ((case k5 => k_asm); (case k6 => first | exact rfl | assumption); (case k7 => ktr_room); (case k8 => ktr_units); intro v9z n9z h9z tk9z F9z N9z R9z; obtain ⟨e9z, R9z, p9z⟩ := R9z; subst e9z; obtain ⟨dx9z, ra9z, pa9z, ba9z, bx9z, bd9z, kt9z, kb9z, ar9z, ap9z, nr9z, np9z, nb9z, bef9z, td9z, to9z, ta9z, tw9z, tb9z, ts9z, bl9z, e8z, hr9z, hp9z, hb9z, hl9z, hd9z⟩ := R9z; subst e8z; (replace p9z := (Option.some.inj p9z).symm); subst p9z; (try dsimp only [endRowF, writeF, beginF, writeAtF, bracketF, finishF] at N9z hr9z hp9z hb9z hl9z hd9z);  (try k_sweep); (try dsimp only); (try k_fold))
  k_with "mine f3" => ((case k5 => k_asm); (case k6 => first | exact rfl | assumption); (case k7 => ktr_room); (case k8 => ktr_units); intro v9z n9z h9z tk9z F9z N9z R9z; obtain ⟨e9z, R9z⟩ := R9z; subst e9z; obtain ⟨dx9z, ra9z, pa9z, ba9z, bx9z, bd9z, kt9z, kb9z, ar9z, ap9z, nr9z, np9z, nb9z, bef9z, td9z, to9z, ta9z, tw9z, tb9z, ts9z, bl9z, e8z, hr9z, hp9z, hb9z, hl9z, hd9z⟩ := R9z; subst e8z; (try dsimp only [endRowF, writeF, beginF, writeAtF, bracketF, finishF] at N9z hr9z hp9z hb9z hl9z hd9z);  (try k_sweep); (try dsimp only); (try k_fold))
  k_with "call ref" => (k_here; (with_reducible show wpAny _ _ (call (Value.ref 242) _) _ _ _); k_dflt ((refine' SpecC.use (end_row_spec _ _ _ _ _ ?hF ?hf) ?k1 ?k2 ?k3 ?k4 ?k5 ?k6 ?k7 ?k8 ?_); k_extra "mine f1"; (case hf => (first | assumption | exact Fit.upd (by assumption))); k_extra "mine f2"))
  k_with "call ref" => (k_here; (with_reducible show wpAny _ _ (call (Value.ref 249) _) _ _ _); k_dflt ((refine' SpecC.use (write_spec _ _ _ _ _ _ _ ?hF ?hw (by assumption) (by assumption) (by assumption)) ?k1 ?k2 ?k3 ?k4 ?k5 ?k6 ?k7 ?k8 ?_); k_extra "mine f1"; (case hw => assumption); k_extra "mine f2"))
  k_with "execs cons" => (k_here; (with_reducible rename News _ _ _ ((_, { cls := Value.type "tuple", data := Data.seq _ }) :: _) => zN9z); (replace zN9z := news_tup zN9z))
  k_with "execs nil" => (k_here; (with_reducible rename News _ _ _ ((_, { cls := Value.type "tuple", data := Data.seq _ }) :: _) => zN9z); (replace zN9z := news_tup zN9z))
  k_with "call ref" => (k_here; (with_reducible show wpAny _ _ (call (Value.ref 284) _) _ _ _); k_dflt ((refine' SpecC.use (begin_fields_spec _ _ _ _ _ ?hF ?hf) ?k1 ?k2 ?k3 ?k4 ?k5 ?k6 ?k7 ?k8 ?_); k_extra "mine f1"; (case hf => (first | assumption | exact Fit.upd (by assumption))); k_extra "mine f2"))
  k_with "call ref" => (k_here; (with_reducible show wpAny _ _ (call (Value.ref 347) _) _ _ _); k_dflt ((refine' SpecC.use (bracket_spec _ _ _ _ _ _ _ ?hF ?hw (by assumption) (by assumption) (by assumption) ?hh) ?k1 ?k2 ?k3 ?k4 ?k5 ?k6 ?k7 ?k8 ?_); k_extra "mine f1"; (case hw => assumption); (case hh => first | rfl | assumption); k_extra "mine f2"))
  k_with "call ref" => (k_here; (with_reducible show wpAny _ _ (call (Value.ref 354) _) _ _ _); k_dflt ((refine' SpecC.use (finish_spec _ _ _ _ _ _ ?hF ?hf ?hu) ?k1 ?k2 ?k3 ?k4 ?k5 ?k6 ?k7 ?k8 ?_); k_extra "mine f1"; (case hf => (first | assumption | exact Fit.upd (by assumption))); (case hu => assumption); k_extra "mine f2"))
  trivial
noncomputable def signF (S : FS) (d : Int) (k t : Str) : FS :=
  if ([Str.ofString ")", Str.ofString "]", Str.ofString "}"].any fun x => x == t) = true then
    (if S.bop = true then
      (if (if 0 > S.ob - 1 then 0 else S.ob - 1) = 0 then beginF { writeF S d k t with ob := (if 0 > S.ob - 1 then 0 else S.ob - 1), bop := false }
       else { writeF S d k t with ob := (if 0 > S.ob - 1 then 0 else S.ob - 1) })
     else { writeF S d k t with ob := (if 0 > S.ob - 1 then 0 else S.ob - 1) })
  else if (t == Str.ofString "=") = true then
    (if (t == Str.ofString ":") = true then (if S.ob = 0 then { writeF S d k t with nam := false, top := { S.top with label := false } } else { writeF S d k t with nam := false })
     else { writeF S d k t with nam := false })
  else if (t == Str.ofString ":") = true then (if S.ob = 0 then { writeF S d k t with nam := false, top := { S.top with label := false } } else { writeF S d k t with nam := false })
  else if (t == Str.ofString ";") = true then (if S.ob = 0 then finishF (writeF S d k t) else writeF S d k t)
  else writeF S d k t
theorem sign_rest_spec (w : World) (x : Addr) (rest : Led) (S : FS) (d : Int) (i : Itm) (news : Led) (hF : FmtAt w x rest S news) (hwf : WF S d) (hok : TokOk i.kind i.text)
    (hi1 : (i.ix, instObj 91 i.dx) ∈ rest) (hi2 : (i.dx, itmD w i) ∈ rest) (q1 : (i.text == Str.ofString "|") = false) (q2 : ([Str.ofString "(", Str.ofString "[", Str.ofString "{"].any fun x => x == i.text) = false)
    (hfit : Fit (writeF S d i.kind i.text)) (hud : UD S.top.word S.top.body S.top.sect S.top.base d) :
    SpecC w 6 340 [.ref x, .ref i.ix] news (fun v n' => v = .none ∧ FmtAt w x rest (signF S d i.kind i.text) n' ∧ topA n' = topA news) := by
  obtain ⟨rows, pieces, before, depth, ⟨wo, bas, bod, sec, lab⟩, low, ob, arr, nam, hea, fie, bop, una, sta, bro, arm⟩ := S
  unfold signF
  obtain ⟨dx, ra, pa, ba, bx, bd, kt, kb, ar, ap, nr, np, nb, bef, td, to, ta, tw, tb, ts, bl, rfl, hr, hp, hb, hl, hdis⟩ := hF
  (try dsimp only at hr hp hb hl hdis)
  (try dsimp only)
  unfold SpecC
  intro mean mg mb dp un gd cn cs a ccd cl outer A₀ base h₀ L m s Q E hB9 hF9 hX9 hN9 hT9 hk hd hu hret
  refine wpAny_call ?_
  k_dflt (refine' code_def (binds := [(Str.ofString "self", Value.ref x), (Str.ofString "item", Value.ref i.ix)]) ?k1 ?k2 ?k3 ?k4 ?k5 ?kA ?kF ?kK ?k6 ?k7 ?k8 ?k9 ?kB ?_ ?c2 ?c3 ?c4 ?c5; (case kA => exact rfl); (case kF => exact rfl); (case kK => assumption); (case k1 => k_asm); (case k2 => k_asm); (case k3 => k_asm); (case k4 => k_asm); (case k5 => k_asm); (case k6 => k_is); (case k7 => k_is); (case k8 => ktr_room); (case k9 => exact BindsTo.of_eq rfl); (case c5 => decide); (case kB => exact locs rfl); (case c2 => exact rfl); (case c3 => exact rfl); (case c4 => exact rfl); k_whole; intro g' L' h' FG' F' N' B' X' T'; (try dsimp only))
  refine gen_tok ?_
  intro tk0
  refine noE ?_
  k_steps
  all_goals
    refine' hret _ _ _ _ ?zF ?zN ⟨rfl, ?zq, ?zt⟩
    case zF => k_asm
    case zN => first | k_asm | exact news_tup (by k_asm)
    case zq =>
      (repeat (first | rw [if_pos (by with_reducible assumption)] | rw [if_neg (by with_reducible assumption)] | rw [if_neg (Bool.eq_false_iff.mp (by with_reducible assumption))]))
      refine' FmtAt.intro ?zr ?zp ?zb ?zl ?zd
      case zr => assumption
      case zp => assumption
      case zb => assumption
      case zl => assumption
      case zd => assumption
    case zt => rfl
section
--FMTFS endRowF, writeF, beginF, writeAtF, bracketF, finishF
local macro_rules | `(tactic| k_upd) => `(tactic| exact Upd.tail (neN (by dsimp only; omega)) (Upd.tail (neN (by dsimp only; omega)) (upd_ba (by with_reducible assumption))))
theorem lnsOpn0 : True := by
  w_top off
  k_with_none
  k_with "mine pure" => ((case k1 => k_asm); (case k2 => k_asm); (case k3 => k_asm); (case k4 => k_asm); (case k5 => k_asm); (case k6 => first | exact rfl | assumption); (case k7 => ktr_room); (case k8 => ktr_units); intro t9z h9z tk9z F9z N9z; (try dsimp only); (try k_fold))
  k_with "execs cons" => (k_here; (with_reducible show wpAny _ _ _ _ _ (Shared.mk _ _ _ (_ + _) _)); refine gen_tok ?_; intro tk9z)
  k_with "execs nil" => (k_here; (with_reducible show wpAny _ _ _ _ _ (Shared.mk _ _ _ (_ + _) _)); refine gen_tok ?_; intro tk9z)
  k_with "WiPost" => (dsimp only [WiPost])
  k_with "mine bool" => (simp only [isLetter, isHex, leS, *, decide_true, decide_false, Bool.not_true, Bool.not_false, Bool.and_true, Bool.true_and, Bool.and_false, Bool.false_and, Bool.or_true, Bool.true_or, Bool.or_false, Bool.false_or, not_true_eq_false, not_false_eq_true])
  k_with "WgPost" => (dsimp only [WgPost])
  k_with "mine steps" => repeat' (first | (k_unfold; (try dsimp only)) | (k_end; wrow_close) | ((fail_if_success (with_reducible show wpAny _ _ (exec (Stmt.While _ _ _ _) _) _ _ _)); (fail_if_success (with_reducible show wpAny _ _ (exec (Stmt.For _ _ _ _ _) _) _ _ _)); walk1) | (dsimp only; walk1) | (leave1; walk_say "STEP leave1"; try dsimp only) | fail "no step")
  k_with "call ref" => (k_here; (with_reducible show wpAny _ _ (call (Value.ref 67) _) _ _ _); k_dflt ((refine' SpecP.use (is_digit_spec _ _ _) ?k1 ?k2 ?k3 ?k4 ?k5 ?k6 ?k7 ?k8 ?_); k_extra "mine pure"))
  k_with "call ref" => (k_here; (with_reducible show wpAny _ _ (call (Value.ref 60) _) _ _ _); k_dflt ((refine' SpecP.use (is_letter_spec _ _ _) ?k1 ?k2 ?k3 ?k4 ?k5 ?k6 ?k7 ?k8 ?_); k_extra "mine pure"))
  k_with "call ref" => (k_here; (with_reducible show wpAny _ _ (call (Value.ref 74) _) _ _ _); k_dflt ((refine' SpecP.use (is_hex_spec _ _ _) ?k1 ?k2 ?k3 ?k4 ?k5 ?k6 ?k7 ?k8 ?_); k_extra "mine pure"))
  k_with "call ref" => (k_here; (with_reducible show wpAny _ _ (call (Value.ref 123) _) _ _ _); k_dflt ((refine' SpecP.use (word_end_spec _ _ _ _ _ (by with_reducible assumption) (by first | with_reducible assumption | omega)) ?k1 ?k2 ?k3 ?k4 ?k5 ?k6 ?k7 ?k8 ?_); k_extra "mine pure"))
  k_with "call ref" => (k_here; (with_reducible show wpAny _ _ (call (Value.ref 130) _) _ _ _); k_dflt ((refine' SpecP.use (digits_end_spec _ _ _ _ _ (by with_reducible assumption) (by first | with_reducible assumption | omega)) ?k1 ?k2 ?k3 ?k4 ?k5 ?k6 ?k7 ?k8 ?_); k_extra "mine pure"))
  k_with "call ref" => (k_here; (with_reducible show wpAny _ _ (call (Value.ref 102) _) _ _ _); k_dflt ((refine' SpecP.use (gap_end_spec _ _ _ _ _ (by with_reducible assumption) (by first | with_reducible assumption | omega)) ?k1 ?k2 ?k3 ?k4 ?k5 ?k6 ?k7 ?k8 ?_); k_extra "mine pure"))
  k_with "call ref" => (k_here; (with_reducible show wpAny _ _ (call (Value.ref 137) _) _ _ _); k_dflt ((refine' SpecP.use (number_end_spec _ _ _ _ _ (by with_reducible assumption) (by first | with_reducible assumption | omega)) ?k1 ?k2 ?k3 ?k4 ?k5 ?k6 ?k7 ?k8 ?_); k_extra "mine pure"))
  k_with "call ref" => (k_here; (with_reducible show wpAny _ _ (call (Value.ref 144) _) _ _ _); k_dflt ((refine' SpecP.use (sign_end_spec _ _ _ _ _ (by with_reducible assumption) (by first | with_reducible assumption | omega) (by first | with_reducible assumption | omega)) ?k1 ?k2 ?k3 ?k4 ?k5 ?k6 ?k7 ?k8 ?_); k_extra "mine pure"))
  k_with "call ref" => (k_here; (with_reducible show wpAny _ _ (call (Value.ref 109) _) _ _ _); k_dflt ((refine' SpecP.use (remark_end_spec _ _ _ _ _ (by with_reducible assumption) (by first | with_reducible assumption | omega)) ?k1 ?k2 ?k3 ?k4 ?k5 ?k6 ?k7 ?k8 ?_); k_extra "mine pure"))
  k_with "mine s1" => ((case k1 => k_asm); (case k2 => k_asm); (case k3 => k_asm); (case k4 => k_asm))
  k_with "mine s2" => ((case k5 => k_asm); (case k6 => first | exact rfl | assumption); (case k7 => ktr_room); (case k8 => ktr_units); intro v9z n9z h9z tk9z F9z N9z R9z; obtain ⟨e9z, e8z⟩ := R9z; subst e9z; (replace e8z := e8z.symm); subst e8z; (try dsimp only); (try k_fold))
  k_with "callWith" => (with_reducible refine callWith_method1 ?_)
  k_with "call builtin:len" => (k_here; (with_reducible show wpAny _ _ (call (Value.builtin "len") [Value.ref _]) _ _ _); k_dflt (refine' len_list ?k1 ?k2 ?_; (case k1 => exact News.isList (by k_asm) (by k_mem)); (case k2 => ((try simp only [List.size_toArray, List.length_append, List.length_cons, List.length_nil]); omega)); k_whole))
  k_with "call builtin:list.append" => (k_here; (with_reducible show wpAny _ _ (call (Value.builtin _) [Value.ref _, _]) _ _ _); k_dflt (refine' append_K ?k1 ?k2 ?k3 ?_ ?z; (case k1 => k_asm); (case k2 => k_asm); (case k3 => k_upd); (case z => ((try simp only [List.size_toArray, List.length_append, List.length_cons, List.length_nil]); rw [sizeLine_eq]; omega)); k_whole); intro h9z F9z N9z; (try k_sweep))
  k_with "binaryOp Add str str" => (k_here; (with_reducible show wpAny _ _ (binaryOp Operator.Add (Value.str _ _) (Value.str _ _)) _ _ _); refine' KOpn.add ?z ?_; (case z => ((have e1 := lenSp); (have e2 := lenEm); omega)); intro t9z k9z l9z)
  k_with "call builtin:str.join" => (k_here; (with_reducible show wpAny _ _ (call (Value.builtin _) [Value.str _ _, Value.ref _]) _ _ _); k_dflt (refine' join_list (News.isList (by k_asm) (by k_mem)) ?k2 ?k3 ?_; (case k2 => assumption); (case k3 => assumption); intro tj9z kj9z))
  k_with "subscriptTail" => (k_here; (with_reducible show wpAny _ _ (subscriptTail _ _ (Value.ref _) (Value.int (-1) _)) _ _ _); k_dflt (refine' lst_end ?zl ?_; (case zl => exact News.isList (by k_asm) (by k_mem))))
  k_with "call ref" => (k_here; (with_reducible show wpAny _ _ (call (Value.ref 228) _) _ _ _); k_dflt ((refine' SpecC.use (top_spec _ ?m1 ?m2 ?m3) ?k1 ?k2 ?k3 ?k4 ?k5 ?k6 ?k7 ?k8 ?_); k_extra "mine s1"; (case m1 => k_mem); (case m2 => k_mem); (case m3 => k_mem); k_extra "mine s2"))
  k_with "call ref" => (k_here; (with_reducible show wpAny _ _ (call (Value.ref 235) _) _ _ _); k_dflt ((refine' SpecC.use (usual_depth_spec _ ?m1 ?m2 ?m3 ?m4 ?m5 ?m6 ?m7) ?k1 ?k2 ?k3 ?k4 ?k5 ?k6 ?k7 ?k8 ?_); (case k1 => k_asm); (case k2 => k_asm); (case k3 => k_asm); (case k4 => k_asm); (case m1 => k_mem); (case m2 => k_mem); (case m3 => k_mem); (case m4 => k_mem); (case m5 => k_mem); (case m6 => first | rfl | assumption); (case m7 => assumption); (case k5 => k_asm); (case k6 => first | exact rfl | assumption); (case k7 => ktr_room); (case k8 => ktr_units); intro v9z n9z h9z tk9z F9z N9z R9z; obtain ⟨⟨et9z, e9z⟩, e8z⟩ := R9z; subst e9z; (replace e8z := e8z.symm); subst e8z; (try dsimp only); (try k_fold)))
  k_with "call ref" => (k_here; (with_reducible show wpAny _ _ (call (Value.ref 263) _) _ _ _); k_dflt ((refine' SpecC.use (is_tight_spec _ ?m1 ?m2 ?m3 ?m4 ?m5 ?m6 (by with_reducible assumption) (by with_reducible assumption) (by with_reducible assumption) (by with_reducible assumption) (by with_reducible assumption) ?m7 ?m8 (by with_reducible assumption) (by with_reducible assumption)) ?k1 ?k2 ?k3 ?k4 ?k5 ?k6 ?k7 ?k8 ?_); k_extra "mine s1"; (case m1 => k_mem); (case m2 => k_mem); (case m3 => k_mem); (case m4 => k_mem); (case m5 => k_mem); (case m6 => k_mem); (case m7 => first | rfl | assumption); (case m8 => first | rfl | assumption); k_extra "mine s2"))
  k_with "call ref" => (k_here; (with_reducible show wpAny _ _ (call (Value.ref 193) _) _ _ _); k_dflt ((refine' SpecP.use (is_unary_spec _ _ _ _ (by with_reducible assumption) (by with_reducible assumption)) ?k1 ?k2 ?k3 ?k4 ?k5 ?k6 ?k7 ?k8 ?_); k_extra "mine pure"))
  k_with "mine f1" => ((case k1 => k_asm); (case k2 => k_asm); (case k3 => k_asm); (case k4 => first | exact news_tup (news_tup (by k_asm)) | exact news_tup (by k_asm) | k_asm); (case hF => (refine' FmtAt.intro ?zr ?zp ?zb ?zl ?zd; (case zr => assumption); (case zp => assumption); (case zb => assumption); (case zl => assumption); (case zd => assumption))))
  k_with "mine f2" => ((case k5 => k_asm); (case k6 => first | exact rfl | assumption); (case k7 => ktr_room); (case k8 => ktr_units); intro v9z n9z h9z tk9z F9z N9z R9z; obtain ⟨e9z, R9z, p9z⟩ := R9z; subst e9z; obtain ⟨dx9z, ra9z, pa9z, ba9z, bx9z, bd9z, kt9z, kb9z, ar9z, ap9z, nr9z, np9z, nb9z, bef9z, td9z, to9z, ta9z, tw9z, tb9z, ts9z, bl9z, e8z, hr9z, hp9z, hb9z, hl9z, hd9z⟩ := R9z; subst e8z; (replace p9z := (Option.some.inj p9z).symm); subst p9z; (try dsimp only [endRowF, writeF, beginF, writeAtF, bracketF, finishF] at N9z hr9z hp9z hb9z hl9z hd9z);  (try k_sweep); (try dsimp only); (try k_fold))
  k_with "mine f3" => ((case k5 => k_asm); (case k6 => first | exact rfl | assumption); (case k7 => ktr_room); (case k8 => ktr_units); intro v9z n9z h9z tk9z F9z N9z R9z; obtain ⟨e9z, R9z⟩ := R9z; subst e9z; obtain ⟨dx9z, ra9z, pa9z, ba9z, bx9z, bd9z, kt9z, kb9z, ar9z, ap9z, nr9z, np9z, nb9z, bef9z, td9z, to9z, ta9z, tw9z, tb9z, ts9z, bl9z, e8z, hr9z, hp9z, hb9z, hl9z, hd9z⟩ := R9z; subst e8z; (try dsimp only [endRowF, writeF, beginF, writeAtF, bracketF, finishF] at N9z hr9z hp9z hb9z hl9z hd9z);  (try k_sweep); (try dsimp only); (try k_fold))
  k_with "call ref" => (k_here; (with_reducible show wpAny _ _ (call (Value.ref 242) _) _ _ _); k_dflt ((refine' SpecC.use (end_row_spec _ _ _ _ _ ?hF ?hf) ?k1 ?k2 ?k3 ?k4 ?k5 ?k6 ?k7 ?k8 ?_); k_extra "mine f1"; (case hf => (first | assumption | exact Fit.upd (by assumption))); k_extra "mine f2"))
  k_with "call ref" => (k_here; (with_reducible show wpAny _ _ (call (Value.ref 249) _) _ _ _); k_dflt ((refine' SpecC.use (write_spec _ _ _ _ _ _ _ ?hF ?hw (by assumption) (by assumption) (by assumption)) ?k1 ?k2 ?k3 ?k4 ?k5 ?k6 ?k7 ?k8 ?_); k_extra "mine f1"; (case hw => assumption); k_extra "mine f2"))
  k_with "execs cons" => (k_here; (with_reducible rename News _ _ _ ((_, { cls := Value.type "tuple", data := Data.seq _ }) :: _) => zN9z); (replace zN9z := news_tup zN9z))
  k_with "execs nil" => (k_here; (with_reducible rename News _ _ _ ((_, { cls := Value.type "tuple", data := Data.seq _ }) :: _) => zN9z); (replace zN9z := news_tup zN9z))
  k_with "call ref" => (k_here; (with_reducible show wpAny _ _ (call (Value.ref 284) _) _ _ _); k_dflt ((refine' SpecC.use (begin_fields_spec _ _ _ _ _ ?hF ?hf) ?k1 ?k2 ?k3 ?k4 ?k5 ?k6 ?k7 ?k8 ?_); k_extra "mine f1"; (case hf => (first | assumption | exact Fit.upd (by assumption))); k_extra "mine f2"))
  k_with "call ref" => (k_here; (with_reducible show wpAny _ _ (call (Value.ref 347) _) _ _ _); k_dflt ((refine' SpecC.use (bracket_spec _ _ _ _ _ _ _ ?hF ?hw (by assumption) (by assumption) (by assumption) ?hh) ?k1 ?k2 ?k3 ?k4 ?k5 ?k6 ?k7 ?k8 ?_); k_extra "mine f1"; (case hw => assumption); (case hh => first | rfl | assumption); k_extra "mine f2"))
  k_with "call ref" => (k_here; (with_reducible show wpAny _ _ (call (Value.ref 354) _) _ _ _); k_dflt ((refine' SpecC.use (finish_spec _ _ _ _ _ _ ?hF ?hf ?hu) ?k1 ?k2 ?k3 ?k4 ?k5 ?k6 ?k7 ?k8 ?_); k_extra "mine f1"; (case hf => (first | assumption | exact Fit.upd (by assumption))); (case hu => assumption); k_extra "mine f2"))
  k_with "call ref" => (k_here; (with_reducible show wpAny _ _ (call (Value.ref 256) _) _ _ _); k_dflt ((refine' SpecC.use (write_at_spec _ _ _ _ _ _ _ _ ?hF ?hf (by assumption) (by assumption)) ?k1 ?k2 ?k3 ?k4 ?k5 ?k6 ?k7 ?k8 ?_); k_extra "mine f1"; (case hf => (first | assumption | exact Fit.upd (by assumption))); k_extra "mine f2"))
  k_with "call ref" => (k_here; (with_reducible show wpAny _ _ (call (Value.ref 182) _) _ _ _); k_dflt ((refine' SpecC.use (mk_block_spec _ _ _ _ _ _) ?k1 ?k2 ?k3 ?k4 ?k5 ?k6 ?k7 ?k8 ?_); (case k1 => k_asm); (case k2 => k_asm); (case k3 => k_asm); (case k4 => k_asm); (case k5 => k_asm); (case k6 => first | exact rfl | assumption); (case k7 => ktr_room); (case k8 => ktr_units); intro v9z n9z h9z tk9z F9z N9z R9z; obtain ⟨bx9z, bd9z, kb9z, ts9z, e9z, e8z, l9z, l8z⟩ := R9z; subst e9z e8z; (have l6z := ltN (l9z _ (.tail _ (.tail _ (.tail _ (.tail _ (.head _)))))));  (replace l8z := ltN l8z); (try dsimp only at l6z); (try dsimp only); (try k_fold)))
  trivial
theorem low_len {w : World} {bl : List RawB} {bs : List Blk} {rest : Led} (h : LowOk w bl bs rest) : (lowRefs bl).length = bs.length := by have := h.len; simpa using this
theorem lnsOpn1 : True := by
  k_with "call builtin:list.append" => (k_here; (with_reducible show wpAny _ _ (call (Value.builtin _) [Value.ref _, _]) _ _ _); k_dflt ((with_reducible rename LowOk _ _ _ _ => hq9z); (have zl9z := low_len hq9z); (refine' append_K ?k1 ?k2 ?k3 ?_ ?z; (case k1 => k_asm); (case k2 => k_asm); (case k3 => k_upd); (case z => ((simp only [List.size_toArray, List.length_append, List.length_cons, List.length_nil]); rw [sizeLine_eq]; omega)); k_whole); intro h9z F9z N9z; (try k_sweep)))
  trivial
theorem push_led {w : World} {h₀ h : Heap} {L x dx ra pa ba bx bd bx9 bd9 : Addr} {o1 o2 o3 o4 ob9 : Obj} {nb : Nat} {bl : List RawB} {bs : List Blk} {rest : Led} {kb : Nat → Tok} {wo sec : Str} {tw tb ts : Tok} {bas : Int} {bod lab : Bool}
    (N : News h₀ L h ((bx9, instObj 182 bd9) :: (bd9, ob9) :: (x, o1) :: (dx, o2) :: (ra, o3) :: (pa, o4) :: (ba, listOf ((lowRefs bl ++ [Value.ref bx]).toArray.push (Value.ref bx9)) nb) :: (bx, instObj 182 bd) :: (bd, blkO w kb wo tw bas tb bod sec ts lab) :: (lowL w bl bs ++ rest))) :
    News h₀ L h ((x, o1) :: (dx, o2) :: (ra, o3) :: (pa, o4) :: (ba, listOf (lowRefs ((⟨bx, bd, kb, tw, tb, ts⟩ : RawB) :: bl) ++ [Value.ref bx9]).toArray nb) :: (bx9, instObj 182 bd9) :: (bd9, ob9) :: (lowL w ((⟨bx, bd, kb, tw, tb, ts⟩ : RawB) :: bl) ((⟨wo, bas, bod, sec, lab⟩ : Blk) :: bs) ++ rest)) := by
  have e : (lowRefs ((⟨bx, bd, kb, tw, tb, ts⟩ : RawB) :: bl) ++ [Value.ref bx9]).toArray = (lowRefs bl ++ [Value.ref bx]).toArray.push (Value.ref bx9) := by simp [lowRefs]
  rw [e]
  intro p hp
  apply N
  have hp : p ∈ (x, o1) :: (dx, o2) :: (ra, o3) :: (pa, o4) :: (ba, listOf ((lowRefs bl ++ [Value.ref bx]).toArray.push (Value.ref bx9)) nb) :: (bx9, instObj 182 bd9) :: (bd9, ob9) :: (bx, instObj 182 bd) :: (bd, blkO w kb wo tw bas tb bod sec ts lab) :: (lowL w bl bs ++ rest) := hp
  simp only [List.mem_cons] at hp ⊢
  rcases hp with h | h | h | h | h | h | h | h | h | h <;> simp [h]
theorem push_ok {w : World} {x dx ra pa ba bx bd bx9 bd9 : Addr} {o1 o2 o3 o4 o5 o6 o7 : Obj} {r : RawB} {b : Blk} {bl : List RawB} {bs : List Blk} {rest : Led} (hb : r.b = bx) (hb' : r.d = bd)
    (hl : LowOk w bl bs rest) (hd : Dis7 x dx ra pa ba bx bd (lowL w bl bs ++ rest)) (hf : ∀ p ∈ (x, o1) :: (dx, o2) :: (ra, o3) :: (pa, o4) :: (ba, o5) :: (bx, o6) :: (bd, o7) :: (lowL w bl bs ++ rest), p.1 < bd9) (h9 : bd9 < bx9) :
    LowOk w (r :: bl) (b :: bs) rest ∧ Dis7 x dx ra pa ba bx9 bd9 (lowL w (r :: bl) (b :: bs) ++ rest) := by
  subst hb hb'
  obtain ⟨n1, n2, n3, n4, n5, n6, n7, n8, n9, n10, n11, n12, n13, n14, n15, n16, n17, n18, n19, n20, n21, a1, a2, a3, a4, a5, a6, a7⟩ := hd
  have f0 : ∀ p ∈ lowL w bl bs ++ rest, p.1 < bd9 := fun p hp => hf p (.tail _ (.tail _ (.tail _ (.tail _ (.tail _ (.tail _ (.tail _ hp)))))))
  have f1 : x < bd9 := hf _ (.head _)
  have f2 : dx < bd9 := hf _ (.tail _ (.head _))
  have f3 : ra < bd9 := hf _ (.tail _ (.tail _ (.head _)))
  have f4 : pa < bd9 := hf _ (.tail _ (.tail _ (.tail _ (.head _))))
  have f5 : ba < bd9 := hf _ (.tail _ (.tail _ (.tail _ (.tail _ (.head _)))))
  have f6 : r.b < bd9 := hf _ (.tail _ (.tail _ (.tail _ (.tail _ (.tail _ (.head _))))))
  have f7 : r.d < bd9 := hf _ (.tail _ (.tail _ (.tail _ (.tail _ (.tail _ (.tail _ (.head _)))))))
  have mem : ∀ p ∈ lowL w (r :: bl) (b :: bs) ++ rest, p.1 = r.b ∨ p.1 = r.d ∨ p ∈ lowL w bl bs ++ rest := by
    intro p hp
    have hp : p ∈ (r.b, instObj 182 r.d) :: (r.d, blkO w r.kb b.word r.tw b.base r.tb b.body b.sect r.ts b.label) :: (lowL w bl bs ++ rest) := hp
    rcases List.mem_cons.mp hp with rfl | hp
    · exact .inl rfl
    rcases List.mem_cons.mp hp with rfl | hp
    · exact .inr (.inl rfl)
    · exact .inr (.inr hp)
  have allof : ∀ {y : Addr}, y ≠ r.b → y ≠ r.d → (∀ p ∈ lowL w bl bs ++ rest, p.1 ≠ y) → ∀ p ∈ lowL w (r :: bl) (b :: bs) ++ rest, p.1 ≠ y := by
    intro y h1 h2 h3 p hp
    rcases mem p hp with h | h | h
    · exact fun e => h1 (e ▸ h)
    · exact fun e => h2 (e ▸ h)
    · exact h3 p h
  have ne9 : ∀ {y : Addr}, y < bd9 → y ≠ bx9 := fun h => Nat.ne_of_lt (Nat.lt_trans h h9)
  refine ⟨⟨by have := hl.len; simpa using this, ?_, ?_⟩, ⟨n1, n2, n3, n4, ne9 f1, Nat.ne_of_lt f1, n7, n8, n9, ne9 f2, Nat.ne_of_lt f2, n12, n13, ne9 f3, Nat.ne_of_lt f3, n16, ne9 f4, Nat.ne_of_lt f4, ne9 f5, Nat.ne_of_lt f5, Nat.ne_of_gt h9, allof n5 n6 a1, allof n10 n11 a2, allof n14 n15 a3, allof n17 n18 a4, allof n19 n20 a5, ?_, ?_⟩⟩
  · show (((r.b, instObj 182 r.d) :: (r.d, blkO w r.kb b.word r.tw b.base r.tb b.body b.sect r.ts b.label) :: lowL w bl bs).map (·.1)).Nodup
    simp only [List.map_cons, List.nodup_cons, List.mem_cons, not_or]
    refine ⟨⟨n21, fun hq => ?_⟩, fun hq => ?_, hl.nod⟩
    · obtain ⟨p, hp, e⟩ := List.mem_map.mp hq
      exact a6 p (List.mem_append_left _ hp) e
    · obtain ⟨p, hp, e⟩ := List.mem_map.mp hq
      exact a7 p (List.mem_append_left _ hp) e
  · intro p hp
    show p.1 ∉ ((r.b, instObj 182 r.d) :: (r.d, blkO w r.kb b.word r.tw b.base r.tb b.body b.sect r.ts b.label) :: lowL w bl bs).map (·.1)
    simp only [List.map_cons, List.mem_cons, not_or]
    exact ⟨a6 p (List.mem_append_right _ hp), a7 p (List.mem_append_right _ hp), hl.off p hp⟩
  · intro p hp
    rcases mem p hp with h | h | h
    · rw [h]; exact ne9 f6
    · rw [h]; exact ne9 f7
    · exact ne9 (f0 p h)
  · intro p hp
    rcases mem p hp with h | h | h
    · rw [h]; exact Nat.ne_of_lt f6
    · rw [h]; exact Nat.ne_of_lt f7
    · exact Nat.ne_of_lt (f0 p h)
theorem push_all {w : World} {h₀ h : Heap} {L x dx ra pa ba bx bd bx9 bd9 : Addr} {o1 o2 o3 o4 o5 o6 o7 p1 p2 p3 p4 ob9 : Obj} {nb : Nat} {bl : List RawB} {bs : List Blk} {rest : Led} {kb : Nat → Tok} {wo sec : Str} {tw tb ts : Tok} {bas : Int} {bod lab : Bool}
    (N : News h₀ L h ((bx9, instObj 182 bd9) :: (bd9, ob9) :: (x, p1) :: (dx, p2) :: (ra, p3) :: (pa, p4) :: (ba, listOf ((lowRefs bl ++ [Value.ref bx]).toArray.push (Value.ref bx9)) nb) :: (bx, instObj 182 bd) :: (bd, blkO w kb wo tw bas tb bod sec ts lab) :: (lowL w bl bs ++ rest)))
    (hl : LowOk w bl bs rest) (hd : Dis7 x dx ra pa ba bx bd (lowL w bl bs ++ rest)) (hf : ∀ p ∈ (x, o1) :: (dx, o2) :: (ra, o3) :: (pa, o4) :: (ba, o5) :: (bx, o6) :: (bd, o7) :: (lowL w bl bs ++ rest), p.1 < bd9) (h9 : bd9 < bx9) :
    ∃ (bl' : List RawB) (bs' : List Blk), bl' = (⟨bx, bd, kb, tw, tb, ts⟩ : RawB) :: bl ∧ bs' = (⟨wo, bas, bod, sec, lab⟩ : Blk) :: bs ∧
    News h₀ L h ((x, p1) :: (dx, p2) :: (ra, p3) :: (pa, p4) :: (ba, listOf (lowRefs bl' ++ [Value.ref bx9]).toArray nb) :: (bx9, instObj 182 bd9) :: (bd9, ob9) :: (lowL w bl' bs' ++ rest)) ∧ LowOk w bl' bs' rest ∧ Dis7 x dx ra pa ba bx9 bd9 (lowL w bl' bs' ++ rest) := by
  obtain ⟨a, b⟩ := push_ok (w := w) (bx9 := bx9) (bd9 := bd9) (r := ⟨bx, bd, kb, tw, tb, ts⟩) (b := ⟨wo, bas, bod, sec, lab⟩) rfl rfl hl hd hf h9
  exact ⟨_, _, rfl, rfl, push_led N, a, b⟩
theorem lnsOpn2 : True := by
  k_with "execs cons" => (k_here; (with_reducible rename News _ _ _ ((_, instObj 182 _) :: (_, _) :: (_, instObj 357 _) :: _) => zN9z); (with_reducible rename (∀ p ∈ (_, instObj 357 _) :: _, p.1 < _) => zf9z); (obtain ⟨bl8z, bs8z, zb8z, zs8z, zN8z, zl8z, zd8z⟩ := push_all zN9z (by with_reducible assumption) (by with_reducible assumption) zf9z (by with_reducible assumption)); clear zN9z)
  trivial
noncomputable def openF (S : FS) (d : Int) (k t : Str) : FS :=
  { writeF S d k t with top := ⟨t, (writeF S d k t).depth, false, Str.ofString "", false⟩, low := S.top :: S.low, nam := false, fie := true }
theorem opening_spec (w : World) (x : Addr) (rest : Led) (S : FS) (d : Int) (i : Itm) (news : Led) (hF : FmtAt w x rest S news) (hwf : WF S d) (hok : TokOk i.kind i.text) (hsz : S.low.length ≤ 1000)
    (hi1 : (i.ix, instObj 91 i.dx) ∈ rest) (hi2 : (i.dx, itmD w i) ∈ rest) (hit : i.text = Str.ofString "RECORD") :
    SpecC w 6 305 [.ref x, .ref i.ix] news (fun v n' => v = .none ∧ FmtAt w x rest (openF S d i.kind i.text) n') := by
  have q1 : (i.text == Str.ofString "REPEAT") = false := by rw [hit]; decide +kernel
  have q2 : (i.text == Str.ofString "RECORD") = true := by rw [hit]; decide +kernel
  clear hit
  obtain ⟨rows, pieces, before, depth, ⟨wo, bas, bod, sec, lab⟩, low, ob, arr, nam, hea, fie, bop, una, sta, bro, arm⟩ := S
  dsimp only at hsz
  obtain ⟨dx, ra, pa, ba, bx, bd, kt, kb, ar, ap, nr, np, nb, bef, td, to, ta, tw, tb, ts, bl, rfl, hr, hp, hb, hl, hdis⟩ := hF
  (try dsimp only at hr hp hb hl hdis)
  (try dsimp only)
  unfold SpecC
  intro mean mg mb dp un gd cn cs a ccd cl outer A₀ base h₀ L m s Q E hB9 hF9 hX9 hN9 hT9 hk hd hu hret
  refine wpAny_call ?_
  k_dflt (refine' code_def (binds := [(Str.ofString "self", Value.ref x), (Str.ofString "item", Value.ref i.ix)]) ?k1 ?k2 ?k3 ?k4 ?k5 ?kA ?kF ?kK ?k6 ?k7 ?k8 ?k9 ?kB ?_ ?c2 ?c3 ?c4 ?c5; (case kA => exact rfl); (case kF => exact rfl); (case kK => assumption); (case k1 => k_asm); (case k2 => k_asm); (case k3 => k_asm); (case k4 => k_asm); (case k5 => k_asm); (case k6 => k_is); (case k7 => k_is); (case k8 => ktr_room); (case k9 => exact BindsTo.of_eq rfl); (case c5 => decide); (case kB => exact locs rfl); (case c2 => exact rfl); (case c3 => exact rfl); (case c4 => exact rfl); k_whole; intro g' L' h' FG' F' N' B' X' T'; (try dsimp only))
  refine gen_tok ?_
  intro tk0
  refine noE ?_
  have hlen : (lowRefs bl).length ≤ 1000 := by have := hl.len; simp at this ⊢; omega
  k_steps
  rename (_ = ({ word := wo, base := bas, body := bod, sect := sec, label := lab } : Blk) :: low) => zs
  subst zs
  refine' hret _ _ _ _ ?zF ?zN ⟨rfl, FmtAt.intro ?zr ?zp ?zb ?zl ?zd⟩
  case zF => k_asm
  case zN => first | k_asm | exact news_tl (by k_asm) | exact news_tl (news_tl (by k_asm))
  case zr => assumption
  case zp => assumption
  case zb => assumption
  case zl => assumption
  case zd => assumption
noncomputable def partF (S : FS) (d : Int) (k t : Str) : FS :=
  { writeF S d k t with top := ⟨Str.ofString "MODULE", (writeF S d k t).depth, false, Str.ofString "", false⟩, low := S.top :: S.low, hea := true }
theorem part_spec (w : World) (x : Addr) (rest : Led) (S : FS) (d : Int) (i : Itm) (news : Led) (hF : FmtAt w x rest S news) (hwf : WF S d) (hok : TokOk i.kind i.text) (hsz : S.low.length ≤ 1000)
    (hi1 : (i.ix, instObj 91 i.dx) ∈ rest) (hi2 : (i.dx, itmD w i) ∈ rest) (hit : i.text = Str.ofString "MODULE") :
    SpecC w 6 319 [.ref x, .ref i.ix] news (fun v n' => v = .none ∧ FmtAt w x rest (partF S d i.kind i.text) n') := by
  have q1 : (i.text == Str.ofString "MODULE") = true := by rw [hit]; decide +kernel
  clear hit
  obtain ⟨rows, pieces, before, depth, ⟨wo, bas, bod, sec, lab⟩, low, ob, arr, nam, hea, fie, bop, una, sta, bro, arm⟩ := S
  dsimp only at hsz
  obtain ⟨dx, ra, pa, ba, bx, bd, kt, kb, ar, ap, nr, np, nb, bef, td, to, ta, tw, tb, ts, bl, rfl, hr, hp, hb, hl, hdis⟩ := hF
  (try dsimp only at hr hp hb hl hdis)
  (try dsimp only)
  unfold SpecC
  intro mean mg mb dp un gd cn cs a ccd cl outer A₀ base h₀ L m s Q E hB9 hF9 hX9 hN9 hT9 hk hd hu hret
  refine wpAny_call ?_
  k_dflt (refine' code_def (binds := [(Str.ofString "self", Value.ref x), (Str.ofString "item", Value.ref i.ix)]) ?k1 ?k2 ?k3 ?k4 ?k5 ?kA ?kF ?kK ?k6 ?k7 ?k8 ?k9 ?kB ?_ ?c2 ?c3 ?c4 ?c5; (case kA => exact rfl); (case kF => exact rfl); (case kK => assumption); (case k1 => k_asm); (case k2 => k_asm); (case k3 => k_asm); (case k4 => k_asm); (case k5 => k_asm); (case k6 => k_is); (case k7 => k_is); (case k8 => ktr_room); (case k9 => exact BindsTo.of_eq rfl); (case c5 => decide); (case kB => exact locs rfl); (case c2 => exact rfl); (case c3 => exact rfl); (case c4 => exact rfl); k_whole; intro g' L' h' FG' F' N' B' X' T'; (try dsimp only))
  refine gen_tok ?_
  intro tk0
  refine noE ?_
  have hlen : (lowRefs bl).length ≤ 1000 := by have := hl.len; simp at this ⊢; omega
  k_steps
  rename (_ = ({ word := wo, base := bas, body := bod, sect := sec, label := lab } : Blk) :: low) => zs
  subst zs
  refine' hret _ _ _ _ ?zF ?zN ⟨rfl, FmtAt.intro ?zr ?zp ?zb ?zl ?zd⟩
  case zF => k_asm
  case zN => first | k_asm | exact news_tl (by k_asm) | exact news_tl (news_tl (by k_asm))
  case zr => assumption
  case zp => assumption
  case zb => assumption
  case zl => assumption
  case zd => assumption
end
--FMTFS endRowF, writeF, beginF, writeAtF, bracketF, finishF
theorem lnsSec0 : True := by
  w_top off
  k_with_none
  k_with "mine pure" => ((case k1 => k_asm); (case k2 => k_asm); (case k3 => k_asm); (case k4 => k_asm); (case k5 => k_asm); (case k6 => first | exact rfl | assumption); (case k7 => ktr_room); (case k8 => ktr_units); intro t9z h9z tk9z F9z N9z; (try dsimp only); (try k_fold))
  k_with "execs cons" => (k_here; (with_reducible show wpAny _ _ _ _ _ (Shared.mk _ _ _ (_ + _) _)); refine gen_tok ?_; intro tk9z)
  k_with "execs nil" => (k_here; (with_reducible show wpAny _ _ _ _ _ (Shared.mk _ _ _ (_ + _) _)); refine gen_tok ?_; intro tk9z)
  k_with "WiPost" => (dsimp only [WiPost])
  k_with "mine bool" => (simp only [isLetter, isHex, leS, *, decide_true, decide_false, Bool.not_true, Bool.not_false, Bool.and_true, Bool.true_and, Bool.and_false, Bool.false_and, Bool.or_true, Bool.true_or, Bool.or_false, Bool.false_or, not_true_eq_false, not_false_eq_true])
  k_with "WgPost" => (dsimp only [WgPost])
  k_with "mine steps" => repeat' (first | (k_unfold; (try dsimp only)) | (k_end; wrow_close) | ((fail_if_success (with_reducible show wpAny _ _ (exec (Stmt.While _ _ _ _) _) _ _ _)); (fail_if_success (with_reducible show wpAny _ _ (exec (Stmt.For _ _ _ _ _) _) _ _ _)); walk1) | (dsimp only; walk1) | (leave1; walk_say "STEP leave1"; try dsimp only) | fail "no step")
  k_with "call ref" => (k_here; (with_reducible show wpAny _ _ (call (Value.ref 67) _) _ _ _); k_dflt ((refine' SpecP.use (is_digit_spec _ _ _) ?k1 ?k2 ?k3 ?k4 ?k5 ?k6 ?k7 ?k8 ?_); k_extra "mine pure"))
  k_with "call ref" => (k_here; (with_reducible show wpAny _ _ (call (Value.ref 60) _) _ _ _); k_dflt ((refine' SpecP.use (is_letter_spec _ _ _) ?k1 ?k2 ?k3 ?k4 ?k5 ?k6 ?k7 ?k8 ?_); k_extra "mine pure"))
  k_with "call ref" => (k_here; (with_reducible show wpAny _ _ (call (Value.ref 74) _) _ _ _); k_dflt ((refine' SpecP.use (is_hex_spec _ _ _) ?k1 ?k2 ?k3 ?k4 ?k5 ?k6 ?k7 ?k8 ?_); k_extra "mine pure"))
  k_with "call ref" => (k_here; (with_reducible show wpAny _ _ (call (Value.ref 123) _) _ _ _); k_dflt ((refine' SpecP.use (word_end_spec _ _ _ _ _ (by with_reducible assumption) (by first | with_reducible assumption | omega)) ?k1 ?k2 ?k3 ?k4 ?k5 ?k6 ?k7 ?k8 ?_); k_extra "mine pure"))
  k_with "call ref" => (k_here; (with_reducible show wpAny _ _ (call (Value.ref 130) _) _ _ _); k_dflt ((refine' SpecP.use (digits_end_spec _ _ _ _ _ (by with_reducible assumption) (by first | with_reducible assumption | omega)) ?k1 ?k2 ?k3 ?k4 ?k5 ?k6 ?k7 ?k8 ?_); k_extra "mine pure"))
  k_with "call ref" => (k_here; (with_reducible show wpAny _ _ (call (Value.ref 102) _) _ _ _); k_dflt ((refine' SpecP.use (gap_end_spec _ _ _ _ _ (by with_reducible assumption) (by first | with_reducible assumption | omega)) ?k1 ?k2 ?k3 ?k4 ?k5 ?k6 ?k7 ?k8 ?_); k_extra "mine pure"))
  k_with "call ref" => (k_here; (with_reducible show wpAny _ _ (call (Value.ref 137) _) _ _ _); k_dflt ((refine' SpecP.use (number_end_spec _ _ _ _ _ (by with_reducible assumption) (by first | with_reducible assumption | omega)) ?k1 ?k2 ?k3 ?k4 ?k5 ?k6 ?k7 ?k8 ?_); k_extra "mine pure"))
  k_with "call ref" => (k_here; (with_reducible show wpAny _ _ (call (Value.ref 144) _) _ _ _); k_dflt ((refine' SpecP.use (sign_end_spec _ _ _ _ _ (by with_reducible assumption) (by first | with_reducible assumption | omega) (by first | with_reducible assumption | omega)) ?k1 ?k2 ?k3 ?k4 ?k5 ?k6 ?k7 ?k8 ?_); k_extra "mine pure"))
  k_with "call ref" => (k_here; (with_reducible show wpAny _ _ (call (Value.ref 109) _) _ _ _); k_dflt ((refine' SpecP.use (remark_end_spec _ _ _ _ _ (by with_reducible assumption) (by first | with_reducible assumption | omega)) ?k1 ?k2 ?k3 ?k4 ?k5 ?k6 ?k7 ?k8 ?_); k_extra "mine pure"))
  k_with "mine s1" => ((case k1 => k_asm); (case k2 => k_asm); (case k3 => k_asm); (case k4 => k_asm))
  k_with "mine s2" => ((case k5 => k_asm); (case k6 => first | exact rfl | assumption); (case k7 => ktr_room); (case k8 => ktr_units); intro v9z n9z h9z tk9z F9z N9z R9z; obtain ⟨e9z, e8z⟩ := R9z; subst e9z; (replace e8z := e8z.symm); subst e8z; (try dsimp only); (try k_fold))
  k_with "callWith" => (with_reducible refine callWith_method1 ?_)
  k_with "call builtin:len" => (k_here; (with_reducible show wpAny _ _ (call (Value.builtin "len") [Value.ref _]) _ _ _); k_dflt (refine' len_list ?k1 ?k2 ?_; (case k1 => exact News.isList (by k_asm) (by k_mem)); (case k2 => ((try simp only [List.size_toArray, List.length_append, List.length_cons, List.length_nil]); omega)); k_whole))
  k_with "call builtin:list.append" => (k_here; (with_reducible show wpAny _ _ (call (Value.builtin _) [Value.ref _, _]) _ _ _); k_dflt (refine' append_K ?k1 ?k2 ?k3 ?_ ?z; (case k1 => k_asm); (case k2 => k_asm); (case k3 => k_upd); (case z => ((try simp only [List.size_toArray, List.length_append, List.length_cons, List.length_nil]); rw [sizeLine_eq]; omega)); k_whole); intro h9z F9z N9z; (try k_sweep))
  k_with "binaryOp Add str str" => (k_here; (with_reducible show wpAny _ _ (binaryOp Operator.Add (Value.str _ _) (Value.str _ _)) _ _ _); refine' KOpn.add ?z ?_; (case z => ((have e1 := lenSp); (have e2 := lenEm); omega)); intro t9z k9z l9z)
  k_with "call builtin:str.join" => (k_here; (with_reducible show wpAny _ _ (call (Value.builtin _) [Value.str _ _, Value.ref _]) _ _ _); k_dflt (refine' join_list (News.isList (by k_asm) (by k_mem)) ?k2 ?k3 ?_; (case k2 => assumption); (case k3 => assumption); intro tj9z kj9z))
  k_with "subscriptTail" => (k_here; (with_reducible show wpAny _ _ (subscriptTail _ _ (Value.ref _) (Value.int (-1) _)) _ _ _); k_dflt (refine' lst_end ?zl ?_; (case zl => exact News.isList (by k_asm) (by k_mem))))
  k_with "call ref" => (k_here; (with_reducible show wpAny _ _ (call (Value.ref 228) _) _ _ _); k_dflt ((refine' SpecC.use (top_spec _ ?m1 ?m2 ?m3) ?k1 ?k2 ?k3 ?k4 ?k5 ?k6 ?k7 ?k8 ?_); k_extra "mine s1"; (case m1 => k_mem); (case m2 => k_mem); (case m3 => k_mem); k_extra "mine s2"))
  k_with "call ref" => (k_here; (with_reducible show wpAny _ _ (call (Value.ref 235) _) _ _ _); k_dflt ((refine' SpecC.use (usual_depth_spec _ ?m1 ?m2 ?m3 ?m4 ?m5 ?m6 ?m7) ?k1 ?k2 ?k3 ?k4 ?k5 ?k6 ?k7 ?k8 ?_); (case k1 => k_asm); (case k2 => k_asm); (case k3 => k_asm); (case k4 => k_asm); (case m1 => k_mem); (case m2 => k_mem); (case m3 => k_mem); (case m4 => k_mem); (case m5 => k_mem); (case m6 => first | rfl | assumption); (case m7 => assumption); (case k5 => k_asm); (case k6 => first | exact rfl | assumption); (case k7 => ktr_room); (case k8 => ktr_units); intro v9z n9z h9z tk9z F9z N9z R9z; obtain ⟨⟨et9z, e9z⟩, e8z⟩ := R9z; subst e9z; (replace e8z := e8z.symm); subst e8z; (try dsimp only); (try k_fold)))
  k_with "call ref" => (k_here; (with_reducible show wpAny _ _ (call (Value.ref 263) _) _ _ _); k_dflt ((refine' SpecC.use (is_tight_spec _ ?m1 ?m2 ?m3 ?m4 ?m5 ?m6 (by with_reducible assumption) (by with_reducible assumption) (by with_reducible assumption) (by with_reducible assumption) (by with_reducible assumption) ?m7 ?m8 (by with_reducible assumption) (by with_reducible assumption)) ?k1 ?k2 ?k3 ?k4 ?k5 ?k6 ?k7 ?k8 ?_); k_extra "mine s1"; (case m1 => k_mem); (case m2 => k_mem); (case m3 => k_mem); (case m4 => k_mem); (case m5 => k_mem); (case m6 => k_mem); (case m7 => first | rfl | assumption); (case m8 => first | rfl | assumption); k_extra "mine s2"))
  k_with "call ref" => (k_here; (with_reducible show wpAny _ _ (call (Value.ref 193) _) _ _ _); k_dflt ((refine' SpecP.use (is_unary_spec _ _ _ _ (by with_reducible assumption) (by with_reducible assumption)) ?k1 ?k2 ?k3 ?k4 ?k5 ?k6 ?k7 ?k8 ?_); k_extra "mine pure"))
  k_with "mine f1" => ((case k1 => k_asm); (case k2 => k_asm); (case k3 => k_asm); (case k4 => first | exact news_tup (news_tup (by k_asm)) | exact news_tup (by k_asm) | k_asm); (case hF => (refine' FmtAt.intro ?zr ?zp ?zb ?zl ?zd; (case zr => assumption); (case zp => assumption); (case zb => assumption); (case zl => assumption); (case zd => assumption))))
  k_with "mine f2" => ((case k5 => k_asm); (case k6 => first | exact rfl | assumption); (case k7 => ktr_room); (case k8 => ktr_units); intro v9z n9z h9z tk9z F9z N9z R9z; obtain ⟨e9z, R9z, p9z⟩ := R9z; subst e9z; obtain ⟨dx9z, ra9z, pa9z, ba9z, bx9z, bd9z, kt9z, kb9z, ar9z, ap9z, nr9z, np9z, nb9z, bef9z, td9z, to9z, ta9z, tw9z, tb9z, ts9z, bl9z, e8z, hr9z, hp9z, hb9z, hl9z, hd9z⟩ := R9z; subst e8z; (replace p9z := (Option.some.inj p9z).symm); subst p9z; (try dsimp only [endRowF, writeF, beginF, writeAtF, bracketF, finishF] at N9z hr9z hp9z hb9z hl9z hd9z);  (try k_sweep); (try dsimp only); (try k_fold))
  k_with "mine f3" => ((case k5 => k_asm); (case k6 => first | exact rfl | assumption); (case k7 => ktr_room); (case k8 => ktr_units); intro v9z n9z h9z tk9z F9z N9z R9z; obtain ⟨e9z, R9z⟩ := R9z; subst e9z; obtain ⟨dx9z, ra9z, pa9z, ba9z, bx9z, bd9z, kt9z, kb9z, ar9z, ap9z, nr9z, np9z, nb9z, bef9z, td9z, to9z, ta9z, tw9z, tb9z, ts9z, bl9z, e8z, hr9z, hp9z, hb9z, hl9z, hd9z⟩ := R9z; subst e8z; (try dsimp only [endRowF, writeF, beginF, writeAtF, bracketF, finishF] at N9z hr9z hp9z hb9z hl9z hd9z);  (try k_sweep); (try dsimp only); (try k_fold))
  k_with "call ref" => (k_here; (with_reducible show wpAny _ _ (call (Value.ref 242) _) _ _ _); k_dflt ((refine' SpecC.use (end_row_spec _ _ _ _ _ ?hF ?hf) ?k1 ?k2 ?k3 ?k4 ?k5 ?k6 ?k7 ?k8 ?_); k_extra "mine f1"; (case hf => (first | assumption | exact Fit.upd (by assumption))); k_extra "mine f2"))
  k_with "call ref" => (k_here; (with_reducible show wpAny _ _ (call (Value.ref 249) _) _ _ _); k_dflt ((refine' SpecC.use (write_spec _ _ _ _ _ _ _ ?hF ?hw (by assumption) (by assumption) (by assumption)) ?k1 ?k2 ?k3 ?k4 ?k5 ?k6 ?k7 ?k8 ?_); k_extra "mine f1"; (case hw => assumption); k_extra "mine f2"))
  k_with "execs cons" => (k_here; (with_reducible rename News _ _ _ ((_, { cls := Value.type "tuple", data := Data.seq _ }) :: _) => zN9z); (replace zN9z := news_tup zN9z))
  k_with "execs nil" => (k_here; (with_reducible rename News _ _ _ ((_, { cls := Value.type "tuple", data := Data.seq _ }) :: _) => zN9z); (replace zN9z := news_tup zN9z))
  k_with "call ref" => (k_here; (with_reducible show wpAny _ _ (call (Value.ref 284) _) _ _ _); k_dflt ((refine' SpecC.use (begin_fields_spec _ _ _ _ _ ?hF ?hf) ?k1 ?k2 ?k3 ?k4 ?k5 ?k6 ?k7 ?k8 ?_); k_extra "mine f1"; (case hf => (first | assumption | exact Fit.upd (by assumption))); k_extra "mine f2"))
  k_with "call ref" => (k_here; (with_reducible show wpAny _ _ (call (Value.ref 347) _) _ _ _); k_dflt ((refine' SpecC.use (bracket_spec _ _ _ _ _ _ _ ?hF ?hw (by assumption) (by assumption) (by assumption) ?hh) ?k1 ?k2 ?k3 ?k4 ?k5 ?k6 ?k7 ?k8 ?_); k_extra "mine f1"; (case hw => assumption); (case hh => first | rfl | assumption); k_extra "mine f2"))
  k_with "call ref" => (k_here; (with_reducible show wpAny _ _ (call (Value.ref 354) _) _ _ _); k_dflt ((refine' SpecC.use (finish_spec _ _ _ _ _ _ ?hF ?hf ?hu) ?k1 ?k2 ?k3 ?k4 ?k5 ?k6 ?k7 ?k8 ?_); k_extra "mine f1"; (case hf => (first | assumption | exact Fit.upd (by assumption))); (case hu => assumption); k_extra "mine f2"))
  k_with "call ref" => (k_here; (with_reducible show wpAny _ _ (call (Value.ref 256) _) _ _ _); k_dflt ((refine' SpecC.use (write_at_spec _ _ _ _ _ _ _ _ ?hF ?hf (by assumption) (by assumption)) ?k1 ?k2 ?k3 ?k4 ?k5 ?k6 ?k7 ?k8 ?_); k_extra "mine f1"; (case hf => (first | assumption | exact Fit.upd (by assumption))); k_extra "mine f2"))
  trivial
noncomputable def sectF (S : FS) (k t : Str) : FS :=
  { endRowF (writeAtF S (S.top.base + 1) k t) with top := { S.top with sect := t }, nam := true }
theorem section_spec (w : World) (x : Addr) (rest : Led) (S : FS) (i : Itm) (news : Led) (hF : FmtAt w x rest S news) (hfit : Fit S) (hfit2 : Fit (writeAtF S (S.top.base + 1) i.kind i.text))
    (hi1 : (i.ix, instObj 91 i.dx) ∈ rest) (hi2 : (i.dx, itmD w i) ∈ rest) :
    SpecC w 6 333 [.ref x, .ref i.ix] news (fun v n' => v = .none ∧ FmtAt w x rest (sectF S i.kind i.text) n') := by
  obtain ⟨rows, pieces, before, depth, ⟨wo, bas, bod, sec, lab⟩, low, ob, arr, nam, hea, fie, bop, una, sta, bro, arm⟩ := S
  obtain ⟨dx, ra, pa, ba, bx, bd, kt, kb, ar, ap, nr, np, nb, bef, td, to, ta, tw, tb, ts, bl, rfl, hr, hp, hb, hl, hdis⟩ := hF
  (try dsimp only at hr hp hb hl hdis)
  (try dsimp only)
  unfold SpecC
  intro mean mg mb dp un gd cn cs a ccd cl outer A₀ base h₀ L m s Q E hB9 hF9 hX9 hN9 hT9 hk hd hu hret
  refine wpAny_call ?_
  k_dflt (refine' code_def (binds := [(Str.ofString "self", Value.ref x), (Str.ofString "item", Value.ref i.ix)]) ?k1 ?k2 ?k3 ?k4 ?k5 ?kA ?kF ?kK ?k6 ?k7 ?k8 ?k9 ?kB ?_ ?c2 ?c3 ?c4 ?c5; (case kA => exact rfl); (case kF => exact rfl); (case kK => assumption); (case k1 => k_asm); (case k2 => k_asm); (case k3 => k_asm); (case k4 => k_asm); (case k5 => k_asm); (case k6 => k_is); (case k7 => k_is); (case k8 => ktr_room); (case k9 => exact BindsTo.of_eq rfl); (case c5 => decide); (case kB => exact locs rfl); (case c2 => exact rfl); (case c3 => exact rfl); (case c4 => exact rfl); k_whole; intro g' L' h' FG' F' N' B' X' T'; (try dsimp only))
  refine gen_tok ?_
  intro tk0
  refine noE ?_
  k_steps
  refine' hret _ _ _ _ ?zF ?zN ⟨rfl, FmtAt.intro ?zr ?zp ?zb ?zl ?zd⟩
  case zF => k_asm
  case zN => first | k_asm | exact news_tl (by k_asm) | exact news_tl (news_tl (by k_asm))
  case zr => assumption
  case zp => assumption
  case zb => assumption
  case zl => assumption
  case zd => assumption
--FMTFS endRowF, writeF, beginF, writeAtF, bracketF, finishF
theorem lnsPop0 : True := by
  w_top off
  k_with_none
  k_with "mine pure" => ((case k1 => k_asm); (case k2 => k_asm); (case k3 => k_asm); (case k4 => k_asm); (case k5 => k_asm); (case k6 => first | exact rfl | assumption); (case k7 => ktr_room); (case k8 => ktr_units); intro t9z h9z tk9z F9z N9z; (try dsimp only); (try k_fold))
  k_with "execs cons" => (k_here; (with_reducible show wpAny _ _ _ _ _ (Shared.mk _ _ _ (_ + _) _)); refine gen_tok ?_; intro tk9z)
  k_with "execs nil" => (k_here; (with_reducible show wpAny _ _ _ _ _ (Shared.mk _ _ _ (_ + _) _)); refine gen_tok ?_; intro tk9z)
  k_with "WiPost" => (dsimp only [WiPost])
  k_with "mine bool" => (simp only [isLetter, isHex, leS, *, decide_true, decide_false, Bool.not_true, Bool.not_false, Bool.and_true, Bool.true_and, Bool.and_false, Bool.false_and, Bool.or_true, Bool.true_or, Bool.or_false, Bool.false_or, not_true_eq_false, not_false_eq_true])
  k_with "WgPost" => (dsimp only [WgPost])
  k_with "mine steps" => repeat' (first | (k_unfold; (try dsimp only)) | (k_end; wrow_close) | ((fail_if_success (with_reducible show wpAny _ _ (exec (Stmt.While _ _ _ _) _) _ _ _)); (fail_if_success (with_reducible show wpAny _ _ (exec (Stmt.For _ _ _ _ _) _) _ _ _)); walk1) | (dsimp only; walk1) | (leave1; walk_say "STEP leave1"; try dsimp only) | fail "no step")
  k_with "call ref" => (k_here; (with_reducible show wpAny _ _ (call (Value.ref 67) _) _ _ _); k_dflt ((refine' SpecP.use (is_digit_spec _ _ _) ?k1 ?k2 ?k3 ?k4 ?k5 ?k6 ?k7 ?k8 ?_); k_extra "mine pure"))
  k_with "call ref" => (k_here; (with_reducible show wpAny _ _ (call (Value.ref 60) _) _ _ _); k_dflt ((refine' SpecP.use (is_letter_spec _ _ _) ?k1 ?k2 ?k3 ?k4 ?k5 ?k6 ?k7 ?k8 ?_); k_extra "mine pure"))
  k_with "call ref" => (k_here; (with_reducible show wpAny _ _ (call (Value.ref 74) _) _ _ _); k_dflt ((refine' SpecP.use (is_hex_spec _ _ _) ?k1 ?k2 ?k3 ?k4 ?k5 ?k6 ?k7 ?k8 ?_); k_extra "mine pure"))
  k_with "call ref" => (k_here; (with_reducible show wpAny _ _ (call (Value.ref 123) _) _ _ _); k_dflt ((refine' SpecP.use (word_end_spec _ _ _ _ _ (by with_reducible assumption) (by first | with_reducible assumption | omega)) ?k1 ?k2 ?k3 ?k4 ?k5 ?k6 ?k7 ?k8 ?_); k_extra "mine pure"))
  k_with "call ref" => (k_here; (with_reducible show wpAny _ _ (call (Value.ref 130) _) _ _ _); k_dflt ((refine' SpecP.use (digits_end_spec _ _ _ _ _ (by with_reducible assumption) (by first | with_reducible assumption | omega)) ?k1 ?k2 ?k3 ?k4 ?k5 ?k6 ?k7 ?k8 ?_); k_extra "mine pure"))
  k_with "call ref" => (k_here; (with_reducible show wpAny _ _ (call (Value.ref 102) _) _ _ _); k_dflt ((refine' SpecP.use (gap_end_spec _ _ _ _ _ (by with_reducible assumption) (by first | with_reducible assumption | omega)) ?k1 ?k2 ?k3 ?k4 ?k5 ?k6 ?k7 ?k8 ?_); k_extra "mine pure"))
  k_with "call ref" => (k_here; (with_reducible show wpAny _ _ (call (Value.ref 137) _) _ _ _); k_dflt ((refine' SpecP.use (number_end_spec _ _ _ _ _ (by with_reducible assumption) (by first | with_reducible assumption | omega)) ?k1 ?k2 ?k3 ?k4 ?k5 ?k6 ?k7 ?k8 ?_); k_extra "mine pure"))
  k_with "call ref" => (k_here; (with_reducible show wpAny _ _ (call (Value.ref 144) _) _ _ _); k_dflt ((refine' SpecP.use (sign_end_spec _ _ _ _ _ (by with_reducible assumption) (by first | with_reducible assumption | omega) (by first | with_reducible assumption | omega)) ?k1 ?k2 ?k3 ?k4 ?k5 ?k6 ?k7 ?k8 ?_); k_extra "mine pure"))
  k_with "call ref" => (k_here; (with_reducible show wpAny _ _ (call (Value.ref 109) _) _ _ _); k_dflt ((refine' SpecP.use (remark_end_spec _ _ _ _ _ (by with_reducible assumption) (by first | with_reducible assumption | omega)) ?k1 ?k2 ?k3 ?k4 ?k5 ?k6 ?k7 ?k8 ?_); k_extra "mine pure"))
  k_with "mine s1" => ((case k1 => k_asm); (case k2 => k_asm); (case k3 => k_asm); (case k4 => k_asm))
  k_with "mine s2" => ((case k5 => k_asm); (case k6 => first | exact rfl | assumption); (case k7 => ktr_room); (case k8 => ktr_units); intro v9z n9z h9z tk9z F9z N9z R9z; obtain ⟨e9z, e8z⟩ := R9z; subst e9z; (replace e8z := e8z.symm); subst e8z; (try dsimp only); (try k_fold))
  k_with "callWith" => (with_reducible refine callWith_method1 ?_)
  k_with "call builtin:len" => (k_here; (with_reducible show wpAny _ _ (call (Value.builtin "len") [Value.ref _]) _ _ _); k_dflt (refine' len_list ?k1 ?k2 ?_; (case k1 => exact News.isList (by k_asm) (by k_mem)); (case k2 => ((try simp only [List.size_toArray, List.length_append, List.length_cons, List.length_nil]); omega)); k_whole))
  k_with "call builtin:list.append" => (k_here; (with_reducible show wpAny _ _ (call (Value.builtin _) [Value.ref _, _]) _ _ _); k_dflt (refine' append_K ?k1 ?k2 ?k3 ?_ ?z; (case k1 => k_asm); (case k2 => k_asm); (case k3 => k_upd); (case z => ((try simp only [List.size_toArray, List.length_append, List.length_cons, List.length_nil]); rw [sizeLine_eq]; omega)); k_whole); intro h9z F9z N9z; (try k_sweep))
  k_with "binaryOp Add str str" => (k_here; (with_reducible show wpAny _ _ (binaryOp Operator.Add (Value.str _ _) (Value.str _ _)) _ _ _); refine' KOpn.add ?z ?_; (case z => ((have e1 := lenSp); (have e2 := lenEm); omega)); intro t9z k9z l9z)
  k_with "call builtin:str.join" => (k_here; (with_reducible show wpAny _ _ (call (Value.builtin _) [Value.str _ _, Value.ref _]) _ _ _); k_dflt (refine' join_list (News.isList (by k_asm) (by k_mem)) ?k2 ?k3 ?_; (case k2 => assumption); (case k3 => assumption); intro tj9z kj9z))
  k_with "subscriptTail" => (k_here; (with_reducible show wpAny _ _ (subscriptTail _ _ (Value.ref _) (Value.int (-1) _)) _ _ _); k_dflt (refine' lst_end ?zl ?_; (case zl => exact News.isList (by k_asm) (by k_mem))))
  k_with "call ref" => (k_here; (with_reducible show wpAny _ _ (call (Value.ref 228) _) _ _ _); k_dflt ((refine' SpecC.use (top_spec _ ?m1 ?m2 ?m3) ?k1 ?k2 ?k3 ?k4 ?k5 ?k6 ?k7 ?k8 ?_); k_extra "mine s1"; (case m1 => k_mem); (case m2 => k_mem); (case m3 => k_mem); k_extra "mine s2"))
  k_with "call ref" => (k_here; (with_reducible show wpAny _ _ (call (Value.ref 235) _) _ _ _); k_dflt ((refine' SpecC.use (usual_depth_spec _ ?m1 ?m2 ?m3 ?m4 ?m5 ?m6 ?m7) ?k1 ?k2 ?k3 ?k4 ?k5 ?k6 ?k7 ?k8 ?_); (case k1 => k_asm); (case k2 => k_asm); (case k3 => k_asm); (case k4 => k_asm); (case m1 => k_mem); (case m2 => k_mem); (case m3 => k_mem); (case m4 => k_mem); (case m5 => k_mem); (case m6 => first | rfl | assumption); (case m7 => assumption); (case k5 => k_asm); (case k6 => first | exact rfl | assumption); (case k7 => ktr_room); (case k8 => ktr_units); intro v9z n9z h9z tk9z F9z N9z R9z; obtain ⟨⟨et9z, e9z⟩, e8z⟩ := R9z; subst e9z; (replace e8z := e8z.symm); subst e8z; (try dsimp only); (try k_fold)))
  k_with "call ref" => (k_here; (with_reducible show wpAny _ _ (call (Value.ref 263) _) _ _ _); k_dflt ((refine' SpecC.use (is_tight_spec _ ?m1 ?m2 ?m3 ?m4 ?m5 ?m6 (by with_reducible assumption) (by with_reducible assumption) (by with_reducible assumption) (by with_reducible assumption) (by with_reducible assumption) ?m7 ?m8 (by with_reducible assumption) (by with_reducible assumption)) ?k1 ?k2 ?k3 ?k4 ?k5 ?k6 ?k7 ?k8 ?_); k_extra "mine s1"; (case m1 => k_mem); (case m2 => k_mem); (case m3 => k_mem); (case m4 => k_mem); (case m5 => k_mem); (case m6 => k_mem); (case m7 => first | rfl | assumption); (case m8 => first | rfl | assumption); k_extra "mine s2"))
  k_with "call ref" => (k_here; (with_reducible show wpAny _ _ (call (Value.ref 193) _) _ _ _); k_dflt ((refine' SpecP.use (is_unary_spec _ _ _ _ (by with_reducible assumption) (by with_reducible assumption)) ?k1 ?k2 ?k3 ?k4 ?k5 ?k6 ?k7 ?k8 ?_); k_extra "mine pure"))
  k_with "mine f1" => ((case k1 => k_asm); (case k2 => k_asm); (case k3 => k_asm); (case k4 => first | exact news_tup (news_tup (by k_asm)) | exact news_tup (by k_asm) | k_asm); (case hF => (refine' FmtAt.intro ?zr ?zp ?zb ?zl ?zd; (case zr => assumption); (case zp => assumption); (case zb => assumption); (case zl => assumption); (case zd => assumption))))
  k_with "mine f2" => ((case k5 => k_asm); (case k6 => first | exact rfl | assumption); (case k7 => ktr_room); (case k8 => ktr_units); intro v9z n9z h9z tk9z F9z N9z R9z; obtain ⟨e9z, R9z, p9z⟩ := R9z; subst e9z; obtain ⟨dx9z, ra9z, pa9z, ba9z, bx9z, bd9z, kt9z, kb9z, ar9z, ap9z, nr9z, np9z, nb9z, bef9z, td9z, to9z, ta9z, tw9z, tb9z, ts9z, bl9z, e8z, hr9z, hp9z, hb9z, hl9z, hd9z⟩ := R9z; subst e8z; (replace p9z := (Option.some.inj p9z).symm); subst p9z; (try dsimp only [endRowF, writeF, beginF, writeAtF, bracketF, finishF] at N9z hr9z hp9z hb9z hl9z hd9z);  (try k_sweep); (try dsimp only); (try k_fold))
  k_with "mine f3" => ((case k5 => k_asm); (case k6 => first | exact rfl | assumption); (case k7 => ktr_room); (case k8 => ktr_units); intro v9z n9z h9z tk9z F9z N9z R9z; obtain ⟨e9z, R9z⟩ := R9z; subst e9z; obtain ⟨dx9z, ra9z, pa9z, ba9z, bx9z, bd9z, kt9z, kb9z, ar9z, ap9z, nr9z, np9z, nb9z, bef9z, td9z, to9z, ta9z, tw9z, tb9z, ts9z, bl9z, e8z, hr9z, hp9z, hb9z, hl9z, hd9z⟩ := R9z; subst e8z; (try dsimp only [endRowF, writeF, beginF, writeAtF, bracketF, finishF] at N9z hr9z hp9z hb9z hl9z hd9z);  (try k_sweep); (try dsimp only); (try k_fold))
  k_with "call ref" => (k_here; (with_reducible show wpAny _ _ (call (Value.ref 242) _) _ _ _); k_dflt ((refine' SpecC.use (end_row_spec _ _ _ _ _ ?hF ?hf) ?k1 ?k2 ?k3 ?k4 ?k5 ?k6 ?k7 ?k8 ?_); k_extra "mine f1"; (case hf => (first | assumption | exact Fit.upd (by assumption))); k_extra "mine f2"))
  k_with "call ref" => (k_here; (with_reducible show wpAny _ _ (call (Value.ref 249) _) _ _ _); k_dflt ((refine' SpecC.use (write_spec _ _ _ _ _ _ _ ?hF ?hw (by assumption) (by assumption) (by assumption)) ?k1 ?k2 ?k3 ?k4 ?k5 ?k6 ?k7 ?k8 ?_); k_extra "mine f1"; (case hw => assumption); k_extra "mine f2"))
  k_with "execs cons" => (k_here; (with_reducible rename News _ _ _ ((_, { cls := Value.type "tuple", data := Data.seq _ }) :: _) => zN9z); (replace zN9z := news_tup zN9z))
  k_with "execs nil" => (k_here; (with_reducible rename News _ _ _ ((_, { cls := Value.type "tuple", data := Data.seq _ }) :: _) => zN9z); (replace zN9z := news_tup zN9z))
  k_with "call ref" => (k_here; (with_reducible show wpAny _ _ (call (Value.ref 284) _) _ _ _); k_dflt ((refine' SpecC.use (begin_fields_spec _ _ _ _ _ ?hF ?hf) ?k1 ?k2 ?k3 ?k4 ?k5 ?k6 ?k7 ?k8 ?_); k_extra "mine f1"; (case hf => (first | assumption | exact Fit.upd (by assumption))); k_extra "mine f2"))
  k_with "call ref" => (k_here; (with_reducible show wpAny _ _ (call (Value.ref 347) _) _ _ _); k_dflt ((refine' SpecC.use (bracket_spec _ _ _ _ _ _ _ ?hF ?hw (by assumption) (by assumption) (by assumption) ?hh) ?k1 ?k2 ?k3 ?k4 ?k5 ?k6 ?k7 ?k8 ?_); k_extra "mine f1"; (case hw => assumption); (case hh => first | rfl | assumption); k_extra "mine f2"))
  k_with "call ref" => (k_here; (with_reducible show wpAny _ _ (call (Value.ref 354) _) _ _ _); k_dflt ((refine' SpecC.use (finish_spec _ _ _ _ _ _ ?hF ?hf ?hu) ?k1 ?k2 ?k3 ?k4 ?k5 ?k6 ?k7 ?k8 ?_); k_extra "mine f1"; (case hf => (first | assumption | exact Fit.upd (by assumption))); (case hu => assumption); k_extra "mine f2"))
  trivial
theorem last_app (y : Value) : ∀ xs : List Value, kl_last (xs ++ [y]) = some (xs, y) := by
  intro xs
  induction xs with
  | nil => rfl
  | cons a xs ih =>
    cases xs with
    | nil => rfl
    | cons b xs => simp only [List.cons_append, kl_last] at ih ⊢; rw [ih]
theorem lnsPop1 : True := by
  k_with "call builtin:list.pop" => (k_here; (with_reducible show wpAny _ _ (call (Value.builtin _) [Value.ref _]) _ _ _); k_dflt ((refine' kl_pop ?k1 ?k2 (last_app _ _) ?k3 ?z ?_); (case k1 => k_asm); (case k2 => k_asm); (case k3 => k_upd); (case z => (simp only [List.length_append, List.length_cons, List.length_nil]; rw [sizeLine_eq]; omega)); intro h9z F9z N9z))
  trivial
theorem news_skip {h₀ h : Heap} {L : Addr} {a b c d e f g : Addr × Obj} {l : Led} (N : News h₀ L h (a :: b :: c :: d :: e :: f :: g :: l)) : News h₀ L h (a :: b :: c :: d :: e :: l) := by
  intro p hp
  apply N
  simp only [List.mem_cons] at hp ⊢
  rcases hp with h | h | h | h | h | h <;> simp [h]
theorem low_pop {w : World} {r : RawB} {bl : List RawB} {b : Blk} {bs : List Blk} {rest : Led} {x dx ra pa ba bx bd : Addr} (hl : LowOk w (r :: bl) (b :: bs) rest) (hd : Dis7 x dx ra pa ba bx bd (lowL w (r :: bl) (b :: bs) ++ rest)) :
    LowOk w bl bs rest ∧ Dis7 x dx ra pa ba r.b r.d (lowL w bl bs ++ rest) := by
  have hn : ((r.b, instObj 182 r.d) :: (r.d, blkO w r.kb b.word r.tw b.base r.tb b.body b.sect r.ts b.label) :: lowL w bl bs).map (·.1) |>.Nodup := hl.nod
  have ho : ∀ p ∈ rest, p.1 ∉ ((r.b, instObj 182 r.d) :: (r.d, blkO w r.kb b.word r.tw b.base r.tb b.body b.sect r.ts b.label) :: lowL w bl bs).map (·.1) := hl.off
  simp only [List.map_cons, List.nodup_cons, List.mem_cons, not_or] at hn ho
  obtain ⟨⟨q1, q2⟩, q3, q4⟩ := hn
  have hm1 : (r.b, instObj 182 r.d) ∈ lowL w (r :: bl) (b :: bs) ++ rest := List.mem_append_left _ (List.mem_cons_self ..)
  have hm2 : (r.d, blkO w r.kb b.word r.tw b.base r.tb b.body b.sect r.ts b.label) ∈ lowL w (r :: bl) (b :: bs) ++ rest := List.mem_append_left _ (List.mem_cons_of_mem _ (List.mem_cons_self ..))
  have sub : ∀ p ∈ lowL w bl bs ++ rest, p ∈ lowL w (r :: bl) (b :: bs) ++ rest := by
    intro p hp
    rcases List.mem_append.mp hp with hp | hp
    · exact List.mem_append_left _ (List.mem_cons_of_mem _ (List.mem_cons_of_mem _ hp))
    · exact List.mem_append_right _ hp
  obtain ⟨n1, n2, n3, n4, n5, n6, n7, n8, n9, n10, n11, n12, n13, n14, n15, n16, n17, n18, n19, n20, n21, a1, a2, a3, a4, a5, a6, a7⟩ := hd
  refine ⟨⟨by have := hl.len; simpa using this, q4, fun p hp => (ho p hp).2.2⟩, ⟨n1, n2, n3, n4, (a1 _ hm1).symm, (a1 _ hm2).symm, n7, n8, n9, (a2 _ hm1).symm, (a2 _ hm2).symm, n12, n13, (a3 _ hm1).symm, (a3 _ hm2).symm, n16, (a4 _ hm1).symm, (a4 _ hm2).symm, (a5 _ hm1).symm, (a5 _ hm2).symm, q1, fun p hp => a1 p (sub p hp), fun p hp => a2 p (sub p hp), fun p hp => a3 p (sub p hp), fun p hp => a4 p (sub p hp), fun p hp => a5 p (sub p hp), ?_, ?_⟩⟩
  · intro p hp
    rcases List.mem_append.mp hp with hp | hp
    · exact fun e => q2 (e ▸ List.mem_map_of_mem hp)
    · exact (ho p hp).1
  · intro p hp
    rcases List.mem_append.mp hp with hp | hp
    · exact fun e => q3 (e ▸ List.mem_map_of_mem hp)
    · exact (ho p hp).2.1
theorem pop_spec (w : World) (x : Addr) (rest : Led) (S : FS) (b : Blk) (bs : List Blk) (news : Led) (hF : FmtAt w x rest S news) (hlow : S.low = b :: bs) (hsz : bs.length ≤ 1000) :
    SpecC w 2 291 [.ref x] news (fun v n' => (∃ t, v = .int S.top.base t) ∧ FmtAt w x rest { S with top := b, low := bs } n') := by
  obtain ⟨rows, pieces, before, depth, ⟨wo, bas, bod, sec, lab⟩, low, ob, arr, nam, hea, fie, bop, una, sta, bro, arm⟩ := S
  dsimp only at hlow
  subst hlow
  obtain ⟨dx, ra, pa, ba, bx, bd, kt, kb, ar, ap, nr, np, nb, bef, td, to, ta, tw, tb, ts, bl, rfl, hr, hp, hb, hl, hdis⟩ := hF
  (try dsimp only at hr hp hb hl hdis)
  (try dsimp only)
  have hlen := hl.len
  obtain ⟨r, bl, rfl⟩ : ∃ r bl', bl = r :: bl' := by
    cases bl with
    | nil => simp at hlen
    | cons r bl => exact ⟨r, bl, rfl⟩
  have hlen2 : (lowRefs bl).length ≤ 1000 := by simp at hlen ⊢; omega
  have e1 : lowRefs (r :: bl) = lowRefs bl ++ [Value.ref r.b] := by simp [lowRefs]
  rw [e1]
  obtain ⟨n1, n2, n3, n4, n5, n6, n7, n8, n9, n10, n11, n12, n13, n14, n15, n16, n17, n18, n19, n20, n21, a1, a2, a3, a4, a5, a6, a7⟩ := id hdis
  have z5 : ((((lowRefs bl ++ [Value.ref r.b] ++ [Value.ref bx]).toArray.size : Nat) : Int) == 1) = false := beq_eq_false_iff_ne.mpr (by simp; omega)
  unfold SpecC
  intro mean mg mb dp un gd cn cs a ccd cl outer A₀ base h₀ L m s Q E hB9 hF9 hX9 hN9 hT9 hk hd hu hret
  refine wpAny_call ?_
  k_dflt (refine' code_def (binds := [(Str.ofString "self", Value.ref x)]) ?k1 ?k2 ?k3 ?k4 ?k5 ?kA ?kF ?kK ?k6 ?k7 ?k8 ?k9 ?kB ?_ ?c2 ?c3 ?c4 ?c5; (case kA => exact rfl); (case kF => exact rfl); (case kK => assumption); (case k1 => k_asm); (case k2 => k_asm); (case k3 => k_asm); (case k4 => k_asm); (case k5 => k_asm); (case k6 => k_is); (case k7 => k_is); (case k8 => ktr_room); (case k9 => exact BindsTo.of_eq rfl); (case c5 => decide); (case kB => exact locs rfl); (case c2 => exact rfl); (case c3 => exact rfl); (case c4 => exact rfl); k_whole; intro g' L' h' FG' F' N' B' X' T'; (try dsimp only))
  refine gen_tok ?_
  intro tk0
  refine noE ?_
  k_steps
  obtain ⟨hl2, hd2⟩ := low_pop hl hdis
  refine' hret _ _ _ _ ?zF ?zN ⟨⟨_, rfl⟩, FmtAt.intro (kb := r.kb) (tw := r.tw) (tb := r.tb) (ts := r.ts) hr hp hb hl2 hd2⟩
  case zF => k_asm
  case zN => k_dflt exact news_skip (by assumption)
--FMTFS endRowF, writeF, beginF, writeAtF, bracketF, finishF
theorem lnsWrd0 : True := by
  w_top off
  k_with_none
  k_with "mine pure" => ((case k1 => k_asm); (case k2 => k_asm); (case k3 => k_asm); (case k4 => k_asm); (case k5 => k_asm); (case k6 => first | exact rfl | assumption); (case k7 => ktr_room); (case k8 => ktr_units); intro t9z h9z tk9z F9z N9z; (try dsimp only); (try k_fold))
  k_with "execs cons" => (k_here; (with_reducible show wpAny _ _ _ _ _ (Shared.mk _ _ _ (_ + _) _)); refine gen_tok ?_; intro tk9z)
  k_with "execs nil" => (k_here; (with_reducible show wpAny _ _ _ _ _ (Shared.mk _ _ _ (_ + _) _)); refine gen_tok ?_; intro tk9z)
  k_with "WiPost" => (dsimp only [WiPost])
  k_with "mine bool" => (simp only [isLetter, isHex, leS, *, decide_true, decide_false, Bool.not_true, Bool.not_false, Bool.and_true, Bool.true_and, Bool.and_false, Bool.false_and, Bool.or_true, Bool.true_or, Bool.or_false, Bool.false_or, not_true_eq_false, not_false_eq_true])
  k_with "WgPost" => (dsimp only [WgPost])
  k_with "mine steps" => repeat' (first | (k_unfold; (try dsimp only)) | (k_end; wrow_close) | ((fail_if_success (with_reducible show wpAny _ _ (exec (Stmt.While _ _ _ _) _) _ _ _)); (fail_if_success (with_reducible show wpAny _ _ (exec (Stmt.For _ _ _ _ _) _) _ _ _)); walk1) | (dsimp only; walk1) | (leave1; walk_say "STEP leave1"; try dsimp only) | fail "no step")
  k_with "call ref" => (k_here; (with_reducible show wpAny _ _ (call (Value.ref 67) _) _ _ _); k_dflt ((refine' SpecP.use (is_digit_spec _ _ _) ?k1 ?k2 ?k3 ?k4 ?k5 ?k6 ?k7 ?k8 ?_); k_extra "mine pure"))
  k_with "call ref" => (k_here; (with_reducible show wpAny _ _ (call (Value.ref 60) _) _ _ _); k_dflt ((refine' SpecP.use (is_letter_spec _ _ _) ?k1 ?k2 ?k3 ?k4 ?k5 ?k6 ?k7 ?k8 ?_); k_extra "mine pure"))
  k_with "call ref" => (k_here; (with_reducible show wpAny _ _ (call (Value.ref 74) _) _ _ _); k_dflt ((refine' SpecP.use (is_hex_spec _ _ _) ?k1 ?k2 ?k3 ?k4 ?k5 ?k6 ?k7 ?k8 ?_); k_extra "mine pure"))
  k_with "call ref" => (k_here; (with_reducible show wpAny _ _ (call (Value.ref 123) _) _ _ _); k_dflt ((refine' SpecP.use (word_end_spec _ _ _ _ _ (by with_reducible assumption) (by first | with_reducible assumption | omega)) ?k1 ?k2 ?k3 ?k4 ?k5 ?k6 ?k7 ?k8 ?_); k_extra "mine pure"))
  k_with "call ref" => (k_here; (with_reducible show wpAny _ _ (call (Value.ref 130) _) _ _ _); k_dflt ((refine' SpecP.use (digits_end_spec _ _ _ _ _ (by with_reducible assumption) (by first | with_reducible assumption | omega)) ?k1 ?k2 ?k3 ?k4 ?k5 ?k6 ?k7 ?k8 ?_); k_extra "mine pure"))
  k_with "call ref" => (k_here; (with_reducible show wpAny _ _ (call (Value.ref 102) _) _ _ _); k_dflt ((refine' SpecP.use (gap_end_spec _ _ _ _ _ (by with_reducible assumption) (by first | with_reducible assumption | omega)) ?k1 ?k2 ?k3 ?k4 ?k5 ?k6 ?k7 ?k8 ?_); k_extra "mine pure"))
  k_with "call ref" => (k_here; (with_reducible show wpAny _ _ (call (Value.ref 137) _) _ _ _); k_dflt ((refine' SpecP.use (number_end_spec _ _ _ _ _ (by with_reducible assumption) (by first | with_reducible assumption | omega)) ?k1 ?k2 ?k3 ?k4 ?k5 ?k6 ?k7 ?k8 ?_); k_extra "mine pure"))
  k_with "call ref" => (k_here; (with_reducible show wpAny _ _ (call (Value.ref 144) _) _ _ _); k_dflt ((refine' SpecP.use (sign_end_spec _ _ _ _ _ (by with_reducible assumption) (by first | with_reducible assumption | omega) (by first | with_reducible assumption | omega)) ?k1 ?k2 ?k3 ?k4 ?k5 ?k6 ?k7 ?k8 ?_); k_extra "mine pure"))
  k_with "call ref" => (k_here; (with_reducible show wpAny _ _ (call (Value.ref 109) _) _ _ _); k_dflt ((refine' SpecP.use (remark_end_spec _ _ _ _ _ (by with_reducible assumption) (by first | with_reducible assumption | omega)) ?k1 ?k2 ?k3 ?k4 ?k5 ?k6 ?k7 ?k8 ?_); k_extra "mine pure"))
  k_with "mine s1" => ((case k1 => k_asm); (case k2 => k_asm); (case k3 => k_asm); (case k4 => k_asm))
  k_with "mine s2" => ((case k5 => k_asm); (case k6 => first | exact rfl | assumption); (case k7 => ktr_room); (case k8 => ktr_units); intro v9z n9z h9z tk9z F9z N9z R9z; obtain ⟨e9z, e8z⟩ := R9z; subst e9z; (replace e8z := e8z.symm); subst e8z; (try dsimp only); (try k_fold))
  k_with "callWith" => (with_reducible refine callWith_method1 ?_)
  k_with "call builtin:len" => (k_here; (with_reducible show wpAny _ _ (call (Value.builtin "len") [Value.ref _]) _ _ _); k_dflt (refine' len_list ?k1 ?k2 ?_; (case k1 => exact News.isList (by k_asm) (by k_mem)); (case k2 => ((try simp only [List.size_toArray, List.length_append, List.length_cons, List.length_nil]); omega)); k_whole))
  k_with "call builtin:list.append" => (k_here; (with_reducible show wpAny _ _ (call (Value.builtin _) [Value.ref _, _]) _ _ _); k_dflt (refine' append_K ?k1 ?k2 ?k3 ?_ ?z; (case k1 => k_asm); (case k2 => k_asm); (case k3 => k_upd); (case z => ((try simp only [List.size_toArray, List.length_append, List.length_cons, List.length_nil]); rw [sizeLine_eq]; omega)); k_whole); intro h9z F9z N9z; (try k_sweep))
  k_with "binaryOp Add str str" => (k_here; (with_reducible show wpAny _ _ (binaryOp Operator.Add (Value.str _ _) (Value.str _ _)) _ _ _); refine' KOpn.add ?z ?_; (case z => ((have e1 := lenSp); (have e2 := lenEm); omega)); intro t9z k9z l9z)
  k_with "call builtin:str.join" => (k_here; (with_reducible show wpAny _ _ (call (Value.builtin _) [Value.str _ _, Value.ref _]) _ _ _); k_dflt (refine' join_list (News.isList (by k_asm) (by k_mem)) ?k2 ?k3 ?_; (case k2 => assumption); (case k3 => assumption); intro tj9z kj9z))
  k_with "subscriptTail" => (k_here; (with_reducible show wpAny _ _ (subscriptTail _ _ (Value.ref _) (Value.int (-1) _)) _ _ _); k_dflt (refine' lst_end ?zl ?_; (case zl => exact News.isList (by k_asm) (by k_mem))))
  k_with "call ref" => (k_here; (with_reducible show wpAny _ _ (call (Value.ref 228) _) _ _ _); k_dflt ((refine' SpecC.use (top_spec _ ?m1 ?m2 ?m3) ?k1 ?k2 ?k3 ?k4 ?k5 ?k6 ?k7 ?k8 ?_); k_extra "mine s1"; (case m1 => k_mem); (case m2 => k_mem); (case m3 => k_mem); k_extra "mine s2"))
  k_with "call ref" => (k_here; (with_reducible show wpAny _ _ (call (Value.ref 235) _) _ _ _); k_dflt ((refine' SpecC.use (usual_depth_spec _ ?m1 ?m2 ?m3 ?m4 ?m5 ?m6 ?m7) ?k1 ?k2 ?k3 ?k4 ?k5 ?k6 ?k7 ?k8 ?_); (case k1 => k_asm); (case k2 => k_asm); (case k3 => k_asm); (case k4 => k_asm); (case m1 => k_mem); (case m2 => k_mem); (case m3 => k_mem); (case m4 => k_mem); (case m5 => k_mem); (case m6 => first | rfl | assumption); (case m7 => assumption); (case k5 => k_asm); (case k6 => first | exact rfl | assumption); (case k7 => ktr_room); (case k8 => ktr_units); intro v9z n9z h9z tk9z F9z N9z R9z; obtain ⟨⟨et9z, e9z⟩, e8z⟩ := R9z; subst e9z; (replace e8z := e8z.symm); subst e8z; (try dsimp only); (try k_fold)))
  k_with "call ref" => (k_here; (with_reducible show wpAny _ _ (call (Value.ref 263) _) _ _ _); k_dflt ((refine' SpecC.use (is_tight_spec _ ?m1 ?m2 ?m3 ?m4 ?m5 ?m6 (by with_reducible assumption) (by with_reducible assumption) (by with_reducible assumption) (by with_reducible assumption) (by with_reducible assumption) ?m7 ?m8 (by with_reducible assumption) (by with_reducible assumption)) ?k1 ?k2 ?k3 ?k4 ?k5 ?k6 ?k7 ?k8 ?_); k_extra "mine s1"; (case m1 => k_mem); (case m2 => k_mem); (case m3 => k_mem); (case m4 => k_mem); (case m5 => k_mem); (case m6 => k_mem); (case m7 => first | rfl | assumption); (case m8 => first | rfl | assumption); k_extra "mine s2"))
  k_with "call ref" => (k_here; (with_reducible show wpAny _ _ (call (Value.ref 193) _) _ _ _); k_dflt ((refine' SpecP.use (is_unary_spec _ _ _ _ (by with_reducible assumption) (by with_reducible assumption)) ?k1 ?k2 ?k3 ?k4 ?k5 ?k6 ?k7 ?k8 ?_); k_extra "mine pure"))
  k_with "mine f1" => ((case k1 => k_asm); (case k2 => k_asm); (case k3 => k_asm); (case k4 => first | exact news_tup (news_tup (by k_asm)) | exact news_tup (by k_asm) | k_asm); (case hF => (refine' FmtAt.intro ?zr ?zp ?zb ?zl ?zd; (case zr => assumption); (case zp => assumption); (case zb => assumption); (case zl => assumption); (case zd => assumption))))
  k_with "mine f2" => ((case k5 => k_asm); (case k6 => first | exact rfl | assumption); (case k7 => ktr_room); (case k8 => ktr_units); intro v9z n9z h9z tk9z F9z N9z R9z; obtain ⟨e9z, R9z, p9z⟩ := R9z; subst e9z; obtain ⟨dx9z, ra9z, pa9z, ba9z, bx9z, bd9z, kt9z, kb9z, ar9z, ap9z, nr9z, np9z, nb9z, bef9z, td9z, to9z, ta9z, tw9z, tb9z, ts9z, bl9z, e8z, hr9z, hp9z, hb9z, hl9z, hd9z⟩ := R9z; subst e8z; (replace p9z := (Option.some.inj p9z).symm); subst p9z; (try dsimp only [endRowF, writeF, beginF, writeAtF, bracketF, finishF] at N9z hr9z hp9z hb9z hl9z hd9z);  (try k_sweep); (try dsimp only); (try k_fold))
  k_with "mine f3" => ((case k5 => k_asm); (case k6 => first | exact rfl | assumption); (case k7 => ktr_room); (case k8 => ktr_units); intro v9z n9z h9z tk9z F9z N9z R9z; obtain ⟨e9z, R9z⟩ := R9z; subst e9z; obtain ⟨dx9z, ra9z, pa9z, ba9z, bx9z, bd9z, kt9z, kb9z, ar9z, ap9z, nr9z, np9z, nb9z, bef9z, td9z, to9z, ta9z, tw9z, tb9z, ts9z, bl9z, e8z, hr9z, hp9z, hb9z, hl9z, hd9z⟩ := R9z; subst e8z; (try dsimp only [endRowF, writeF, beginF, writeAtF, bracketF, finishF] at N9z hr9z hp9z hb9z hl9z hd9z);  (try k_sweep); (try dsimp only); (try k_fold))
  k_with "call ref" => (k_here; (with_reducible show wpAny _ _ (call (Value.ref 242) _) _ _ _); k_dflt ((refine' SpecC.use (end_row_spec _ _ _ _ _ ?hF ?hf) ?k1 ?k2 ?k3 ?k4 ?k5 ?k6 ?k7 ?k8 ?_); k_extra "mine f1"; (case hf => (first | assumption | exact Fit.upd (by assumption))); k_extra "mine f2"))
  k_with "call ref" => (k_here; (with_reducible show wpAny _ _ (call (Value.ref 249) _) _ _ _); k_dflt ((refine' SpecC.use (write_spec _ _ _ _ _ _ _ ?hF ?hw (by assumption) (by assumption) (by assumption)) ?k1 ?k2 ?k3 ?k4 ?k5 ?k6 ?k7 ?k8 ?_); k_extra "mine f1"; (case hw => assumption); k_extra "mine f2"))
  k_with "execs cons" => (k_here; (with_reducible rename News _ _ _ ((_, { cls := Value.type "tuple", data := Data.seq _ }) :: _) => zN9z); (replace zN9z := news_tup zN9z))
  k_with "execs nil" => (k_here; (with_reducible rename News _ _ _ ((_, { cls := Value.type "tuple", data := Data.seq _ }) :: _) => zN9z); (replace zN9z := news_tup zN9z))
  k_with "call ref" => (k_here; (with_reducible show wpAny _ _ (call (Value.ref 284) _) _ _ _); k_dflt ((refine' SpecC.use (begin_fields_spec _ _ _ _ _ ?hF ?hf) ?k1 ?k2 ?k3 ?k4 ?k5 ?k6 ?k7 ?k8 ?_); k_extra "mine f1"; (case hf => (first | assumption | exact Fit.upd (by assumption))); k_extra "mine f2"))
  k_with "call ref" => (k_here; (with_reducible show wpAny _ _ (call (Value.ref 347) _) _ _ _); k_dflt ((refine' SpecC.use (bracket_spec _ _ _ _ _ _ _ ?hF ?hw (by assumption) (by assumption) (by assumption) ?hh) ?k1 ?k2 ?k3 ?k4 ?k5 ?k6 ?k7 ?k8 ?_); k_extra "mine f1"; (case hw => assumption); (case hh => first | rfl | assumption); k_extra "mine f2"))
  k_with "call ref" => (k_here; (with_reducible show wpAny _ _ (call (Value.ref 354) _) _ _ _); k_dflt ((refine' SpecC.use (finish_spec _ _ _ _ _ _ ?hF ?hf ?hu) ?k1 ?k2 ?k3 ?k4 ?k5 ?k6 ?k7 ?k8 ?_); k_extra "mine f1"; (case hf => (first | assumption | exact Fit.upd (by assumption))); (case hu => assumption); k_extra "mine f2"))
  k_with "call ref" => (k_here; (with_reducible show wpAny _ _ (call (Value.ref 256) _) _ _ _); k_dflt ((refine' SpecC.use (write_at_spec _ _ _ _ _ _ _ _ ?hF ?hf (by assumption) (by assumption)) ?k1 ?k2 ?k3 ?k4 ?k5 ?k6 ?k7 ?k8 ?_); k_extra "mine f1"; (case hf => (first | assumption | exact Fit.upd (by assumption))); k_extra "mine f2"))
  k_with "call ref" => (k_here; (with_reducible show wpAny _ _ (call (Value.ref 305) _) _ _ _); k_dflt ((refine' SpecC.use (opening_spec _ _ _ _ _ _ _ ?hF ?hw (by assumption) ?hs (by assumption) (by assumption) (by assumption)) ?k1 ?k2 ?k3 ?k4 ?k5 ?k6 ?k7 ?k8 ?_); k_extra "mine f1"; (case hw => assumption); (case hs => assumption); k_extra "mine f3"))
  k_with "call ref" => (k_here; (with_reducible show wpAny _ _ (call (Value.ref 319) _) _ _ _); k_dflt ((refine' SpecC.use (part_spec _ _ _ _ _ _ _ ?hF ?hw (by assumption) ?hs (by assumption) (by assumption) (by assumption)) ?k1 ?k2 ?k3 ?k4 ?k5 ?k6 ?k7 ?k8 ?_); k_extra "mine f1"; (case hw => assumption); (case hs => assumption); k_extra "mine f3"))
  k_with "call ref" => (k_here; (with_reducible show wpAny _ _ (call (Value.ref 333) _) _ _ _); k_dflt ((refine' SpecC.use (section_spec _ _ _ _ _ _ ?hF ?hf ?hg (by assumption) (by assumption)) ?k1 ?k2 ?k3 ?k4 ?k5 ?k6 ?k7 ?k8 ?_); k_extra "mine f1"; (case hf => assumption); (case hg => assumption); k_extra "mine f3"))
  k_with "call ref" => (k_here; (with_reducible show wpAny _ _ (call (Value.ref 291) _) _ _ _); k_dflt ((refine' SpecC.use (pop_spec _ _ _ _ _ _ _ ?hF ?hlo ?hs) ?k1 ?k2 ?k3 ?k4 ?k5 ?k6 ?k7 ?k8 ?_); (case k1 => k_asm); (case k2 => k_asm); (case k3 => k_asm); (case k4 => k_asm); (case hF => (refine' FmtAt.intro ?zr ?zp ?zb ?zl ?zd; (case zr => assumption); (case zp => assumption); (case zb => assumption); (case zl => assumption); (case zd => assumption))); (case hlo => exact rfl); (case hs => assumption); (case k5 => k_asm); (case k6 => first | exact rfl | assumption); (case k7 => ktr_room); (case k8 => ktr_units); intro v9z n9z h9z tk9z F9z N9z R9z; obtain ⟨⟨tp9z, e9z⟩, R9z⟩ := R9z; subst e9z; obtain ⟨dx9z, ra9z, pa9z, ba9z, bx9z, bd9z, kt9z, kb9z, ar9z, ap9z, nr9z, np9z, nb9z, bef9z, td9z, to9z, ta9z, tw9z, tb9z, ts9z, bl9z, e8z, hr9z, hp9z, hb9z, hl9z, hd9z⟩ := R9z; subst e8z; (try dsimp only at N9z hr9z hp9z hb9z hl9z hd9z);  (try k_sweep); (try dsimp only); (try k_fold)))
  trivial
noncomputable def endF (S : FS) (b : Blk) (bs : List Blk) (k t : Str) : FS := writeAtF { endRowF { S with nam := false } with top := b, low := bs } S.top.base k t
inductive WordOk (S : FS) (k t : Str) : FS → Prop
  | modu (d : Int) : WF S d → TokOk k t → S.low.length ≤ 1000 → t = Str.ofString "MODULE" → WordOk S k t (partF S d k t)
  | reco (d : Int) : WF S d → TokOk k t → S.low.length ≤ 1000 → t = Str.ofString "RECORD" → WordOk S k t (openF S d k t)
  | typ : Fit S → Fit (writeAtF S (S.top.base + 1) k t) → S.ob = 0 → t = Str.ofString "TYPE" → WordOk S k t (sectF S k t)
  | ende (b : Blk) (bs : List Blk) : S.low = b :: bs → bs.length ≤ 1000 → Fit { S with nam := false } → Fit { endRowF { S with nam := false } with top := b, low := bs } → t = Str.ofString "END" → WordOk S k t (endF S b bs k t)
theorem word_spec (w : World) (x : Addr) (rest : Led) (S S' : FS) (i : Itm) (news : Led) (hF : FmtAt w x rest S news) (hW : WordOk S i.kind i.text S')
    (hi1 : (i.ix, instObj 91 i.dx) ∈ rest) (hi2 : (i.dx, itmD w i) ∈ rest) :
    SpecC w 7 298 [.ref x, .ref i.ix] news (fun v n' => v = .none ∧ FmtAt w x rest S' n') := by
  cases hW with
  | modu d hwf hok hsz ht =>
    have q1 : ([Str.ofString "IF", Str.ofString "WHILE", Str.ofString "FOR", Str.ofString "CASE", Str.ofString "REPEAT", Str.ofString "RECORD"].any fun x => x == i.text) = false := by rw [ht]; decide +kernel
    have q2 : ([Str.ofString "THEN", Str.ofString "DO", Str.ofString "ELSE", Str.ofString "ELSIF", Str.ofString "OF"].any fun x => x == i.text) = false := by rw [ht]; decide +kernel
    have q3 : (i.text == Str.ofString "END") = false := by rw [ht]; decide +kernel
    have q4 : (i.text == Str.ofString "UNTIL") = false := by rw [ht]; decide +kernel
    have q5 : ([Str.ofString "MODULE", Str.ofString "PROCEDURE", Str.ofString "BEGIN", Str.ofString "RETURN", Str.ofString "IMPORT"].any fun x => x == i.text) = true := by rw [ht]; decide +kernel
    obtain ⟨rows, pieces, before, depth, ⟨wo, bas, bod, sec, lab⟩, low, ob, arr, nam, hea, fie, bop, una, sta, bro, arm⟩ := S
    dsimp only at hsz
    obtain ⟨dx, ra, pa, ba, bx, bd, kt, kb, ar, ap, nr, np, nb, bef, td, to, ta, tw, tb, ts, bl, rfl, hr, hp, hb, hl, hdis⟩ := hF
    (try dsimp only at hr hp hb hl hdis)
    (try dsimp only)
    unfold SpecC
    intro mean mg mb dp un gd cn cs a ccd cl outer A₀ base h₀ L m s Q E hB9 hF9 hX9 hN9 hT9 hk hd hu hret
    refine wpAny_call ?_
    k_dflt (refine' code_def (binds := [(Str.ofString "self", Value.ref x), (Str.ofString "item", Value.ref i.ix)]) ?k1 ?k2 ?k3 ?k4 ?k5 ?kA ?kF ?kK ?k6 ?k7 ?k8 ?k9 ?kB ?_ ?c2 ?c3 ?c4 ?c5; (case kA => exact rfl); (case kF => exact rfl); (case kK => assumption); (case k1 => k_asm); (case k2 => k_asm); (case k3 => k_asm); (case k4 => k_asm); (case k5 => k_asm); (case k6 => k_is); (case k7 => k_is); (case k8 => ktr_room); (case k9 => exact BindsTo.of_eq rfl); (case c5 => decide); (case kB => exact locs rfl); (case c2 => exact rfl); (case c3 => exact rfl); (case c4 => exact rfl); k_whole; intro g' L' h' FG' F' N' B' X' T'; (try dsimp only))
    refine gen_tok ?_
    intro tk0
    refine noE ?_
    k_steps
    refine' hret _ _ _ _ ?zF ?zN ⟨rfl, FmtAt.intro ?zr ?zp ?zb ?zl ?zd⟩
    case zF => k_asm
    case zN => first | k_asm | exact news_tl (by k_asm) | exact news_tl (news_tl (by k_asm))
    case zr => assumption
    case zp => assumption
    case zb => assumption
    case zl => assumption
    case zd => assumption
  | reco d hwf hok hsz ht =>
    have q1 : ([Str.ofString "IF", Str.ofString "WHILE", Str.ofString "FOR", Str.ofString "CASE", Str.ofString "REPEAT", Str.ofString "RECORD"].any fun x => x == i.text) = true := by rw [ht]; decide +kernel
    obtain ⟨rows, pieces, before, depth, ⟨wo, bas, bod, sec, lab⟩, low, ob, arr, nam, hea, fie, bop, una, sta, bro, arm⟩ := S
    dsimp only at hsz
    obtain ⟨dx, ra, pa, ba, bx, bd, kt, kb, ar, ap, nr, np, nb, bef, td, to, ta, tw, tb, ts, bl, rfl, hr, hp, hb, hl, hdis⟩ := hF
    (try dsimp only at hr hp hb hl hdis)
    (try dsimp only)
    unfold SpecC
    intro mean mg mb dp un gd cn cs a ccd cl outer A₀ base h₀ L m s Q E hB9 hF9 hX9 hN9 hT9 hk hd hu hret
    refine wpAny_call ?_
    k_dflt (refine' code_def (binds := [(Str.ofString "self", Value.ref x), (Str.ofString "item", Value.ref i.ix)]) ?k1 ?k2 ?k3 ?k4 ?k5 ?kA ?kF ?kK ?k6 ?k7 ?k8 ?k9 ?kB ?_ ?c2 ?c3 ?c4 ?c5; (case kA => exact rfl); (case kF => exact rfl); (case kK => assumption); (case k1 => k_asm); (case k2 => k_asm); (case k3 => k_asm); (case k4 => k_asm); (case k5 => k_asm); (case k6 => k_is); (case k7 => k_is); (case k8 => ktr_room); (case k9 => exact BindsTo.of_eq rfl); (case c5 => decide); (case kB => exact locs rfl); (case c2 => exact rfl); (case c3 => exact rfl); (case c4 => exact rfl); k_whole; intro g' L' h' FG' F' N' B' X' T'; (try dsimp only))
    refine gen_tok ?_
    intro tk0
    refine noE ?_
    k_steps
    refine' hret _ _ _ _ ?zF ?zN ⟨rfl, FmtAt.intro ?zr ?zp ?zb ?zl ?zd⟩
    case zF => k_asm
    case zN => first | k_asm | exact news_tl (by k_asm) | exact news_tl (news_tl (by k_asm))
    case zr => assumption
    case zp => assumption
    case zb => assumption
    case zl => assumption
    case zd => assumption
  | typ hfit hfit2 hob ht =>
    have q1 : ([Str.ofString "IF", Str.ofString "WHILE", Str.ofString "FOR", Str.ofString "CASE", Str.ofString "REPEAT", Str.ofString "RECORD"].any fun x => x == i.text) = false := by rw [ht]; decide +kernel
    have q2 : ([Str.ofString "THEN", Str.ofString "DO", Str.ofString "ELSE", Str.ofString "ELSIF", Str.ofString "OF"].any fun x => x == i.text) = false := by rw [ht]; decide +kernel
    have q3 : (i.text == Str.ofString "END") = false := by rw [ht]; decide +kernel
    have q4 : (i.text == Str.ofString "UNTIL") = false := by rw [ht]; decide +kernel
    have q5 : ([Str.ofString "MODULE", Str.ofString "PROCEDURE", Str.ofString "BEGIN", Str.ofString "RETURN", Str.ofString "IMPORT"].any fun x => x == i.text) = false := by rw [ht]; decide +kernel
    have q6 : ([Str.ofString "CONST", Str.ofString "TYPE", Str.ofString "VAR"].any fun x => x == i.text) = true := by rw [ht]; decide +kernel
    obtain ⟨rows, pieces, before, depth, ⟨wo, bas, bod, sec, lab⟩, low, ob, arr, nam, hea, fie, bop, una, sta, bro, arm⟩ := S
    dsimp only at hob
    subst hob
    obtain ⟨dx, ra, pa, ba, bx, bd, kt, kb, ar, ap, nr, np, nb, bef, td, to, ta, tw, tb, ts, bl, rfl, hr, hp, hb, hl, hdis⟩ := hF
    (try dsimp only at hr hp hb hl hdis)
    (try dsimp only)
    unfold SpecC
    intro mean mg mb dp un gd cn cs a ccd cl outer A₀ base h₀ L m s Q E hB9 hF9 hX9 hN9 hT9 hk hd hu hret
    refine wpAny_call ?_
    k_dflt (refine' code_def (binds := [(Str.ofString "self", Value.ref x), (Str.ofString "item", Value.ref i.ix)]) ?k1 ?k2 ?k3 ?k4 ?k5 ?kA ?kF ?kK ?k6 ?k7 ?k8 ?k9 ?kB ?_ ?c2 ?c3 ?c4 ?c5; (case kA => exact rfl); (case kF => exact rfl); (case kK => assumption); (case k1 => k_asm); (case k2 => k_asm); (case k3 => k_asm); (case k4 => k_asm); (case k5 => k_asm); (case k6 => k_is); (case k7 => k_is); (case k8 => ktr_room); (case k9 => exact BindsTo.of_eq rfl); (case c5 => decide); (case kB => exact locs rfl); (case c2 => exact rfl); (case c3 => exact rfl); (case c4 => exact rfl); k_whole; intro g' L' h' FG' F' N' B' X' T'; (try dsimp only))
    refine gen_tok ?_
    intro tk0
    refine noE ?_
    k_steps
    refine' hret _ _ _ _ ?zF ?zN ⟨rfl, FmtAt.intro ?zr ?zp ?zb ?zl ?zd⟩
    case zF => k_asm
    case zN => first | k_asm | exact news_tl (by k_asm) | exact news_tl (news_tl (by k_asm))
    case zr => assumption
    case zp => assumption
    case zb => assumption
    case zl => assumption
    case zd => assumption
  | ende b bs hlow hsz hfit hfit2 ht =>
    have q1 : ([Str.ofString "IF", Str.ofString "WHILE", Str.ofString "FOR", Str.ofString "CASE", Str.ofString "REPEAT", Str.ofString "RECORD"].any fun x => x == i.text) = false := by rw [ht]; decide +kernel
    have q2 : ([Str.ofString "THEN", Str.ofString "DO", Str.ofString "ELSE", Str.ofString "ELSIF", Str.ofString "OF"].any fun x => x == i.text) = false := by rw [ht]; decide +kernel
    have q3 : (i.text == Str.ofString "END") = true := by rw [ht]; decide +kernel
    obtain ⟨rows, pieces, before, depth, ⟨wo, bas, bod, sec, lab⟩, low, ob, arr, nam, hea, fie, bop, una, sta, bro, arm⟩ := S
    dsimp only at hlow
    subst hlow
    obtain ⟨dx, ra, pa, ba, bx, bd, kt, kb, ar, ap, nr, np, nb, bef, td, to, ta, tw, tb, ts, bl, rfl, hr, hp, hb, hl, hdis⟩ := hF
    (try dsimp only at hr hp hb hl hdis)
    (try dsimp only)
    unfold SpecC
    intro mean mg mb dp un gd cn cs a ccd cl outer A₀ base h₀ L m s Q E hB9 hF9 hX9 hN9 hT9 hk hd hu hret
    refine wpAny_call ?_
    k_dflt (refine' code_def (binds := [(Str.ofString "self", Value.ref x), (Str.ofString "item", Value.ref i.ix)]) ?k1 ?k2 ?k3 ?k4 ?k5 ?kA ?kF ?kK ?k6 ?k7 ?k8 ?k9 ?kB ?_ ?c2 ?c3 ?c4 ?c5; (case kA => exact rfl); (case kF => exact rfl); (case kK => assumption); (case k1 => k_asm); (case k2 => k_asm); (case k3 => k_asm); (case k4 => k_asm); (case k5 => k_asm); (case k6 => k_is); (case k7 => k_is); (case k8 => ktr_room); (case k9 => exact BindsTo.of_eq rfl); (case c5 => decide); (case kB => exact locs rfl); (case c2 => exact rfl); (case c3 => exact rfl); (case c4 => exact rfl); k_whole; intro g' L' h' FG' F' N' B' X' T'; (try dsimp only))
    refine gen_tok ?_
    intro tk0
    refine noE ?_
    k_steps
    refine' hret _ _ _ _ ?zF ?zN ⟨rfl, FmtAt.intro ?zr ?zp ?zb ?zl ?zd⟩
    case zF => k_asm
    case zN => first | k_asm | exact news_tl (by k_asm) | exact news_tl (news_tl (by k_asm))
    case zr => assumption
    case zp => assumption
    case zb => assumption
    case zl => assumption
    case zd => assumption
--FMTFS endRowF, writeF, beginF, writeAtF, bracketF, finishF
theorem lnsRem0 : True := by
  w_top off
  k_with_none
  k_with "mine pure" => ((case k1 => k_asm); (case k2 => k_asm); (case k3 => k_asm); (case k4 => k_asm); (case k5 => k_asm); (case k6 => first | exact rfl | assumption); (case k7 => ktr_room); (case k8 => ktr_units); intro t9z h9z tk9z F9z N9z; (try dsimp only); (try k_fold))
  k_with "execs cons" => (k_here; (with_reducible show wpAny _ _ _ _ _ (Shared.mk _ _ _ (_ + _) _)); refine gen_tok ?_; intro tk9z)
  k_with "execs nil" => (k_here; (with_reducible show wpAny _ _ _ _ _ (Shared.mk _ _ _ (_ + _) _)); refine gen_tok ?_; intro tk9z)
  k_with "WiPost" => (dsimp only [WiPost])
  k_with "mine bool" => (simp only [isLetter, isHex, leS, *, decide_true, decide_false, Bool.not_true, Bool.not_false, Bool.and_true, Bool.true_and, Bool.and_false, Bool.false_and, Bool.or_true, Bool.true_or, Bool.or_false, Bool.false_or, not_true_eq_false, not_false_eq_true])
  k_with "WgPost" => (dsimp only [WgPost])
  k_with "mine steps" => repeat' (first | (k_unfold; (try dsimp only)) | (k_end; wrow_close) | ((fail_if_success (with_reducible show wpAny _ _ (exec (Stmt.While _ _ _ _) _) _ _ _)); (fail_if_success (with_reducible show wpAny _ _ (exec (Stmt.For _ _ _ _ _) _) _ _ _)); walk1) | (dsimp only; walk1) | (leave1; walk_say "STEP leave1"; try dsimp only) | fail "no step")
  k_with "call ref" => (k_here; (with_reducible show wpAny _ _ (call (Value.ref 67) _) _ _ _); k_dflt ((refine' SpecP.use (is_digit_spec _ _ _) ?k1 ?k2 ?k3 ?k4 ?k5 ?k6 ?k7 ?k8 ?_); k_extra "mine pure"))
  k_with "call ref" => (k_here; (with_reducible show wpAny _ _ (call (Value.ref 60) _) _ _ _); k_dflt ((refine' SpecP.use (is_letter_spec _ _ _) ?k1 ?k2 ?k3 ?k4 ?k5 ?k6 ?k7 ?k8 ?_); k_extra "mine pure"))
  k_with "call ref" => (k_here; (with_reducible show wpAny _ _ (call (Value.ref 74) _) _ _ _); k_dflt ((refine' SpecP.use (is_hex_spec _ _ _) ?k1 ?k2 ?k3 ?k4 ?k5 ?k6 ?k7 ?k8 ?_); k_extra "mine pure"))
  k_with "call ref" => (k_here; (with_reducible show wpAny _ _ (call (Value.ref 123) _) _ _ _); k_dflt ((refine' SpecP.use (word_end_spec _ _ _ _ _ (by with_reducible assumption) (by first | with_reducible assumption | omega)) ?k1 ?k2 ?k3 ?k4 ?k5 ?k6 ?k7 ?k8 ?_); k_extra "mine pure"))
  k_with "call ref" => (k_here; (with_reducible show wpAny _ _ (call (Value.ref 130) _) _ _ _); k_dflt ((refine' SpecP.use (digits_end_spec _ _ _ _ _ (by with_reducible assumption) (by first | with_reducible assumption | omega)) ?k1 ?k2 ?k3 ?k4 ?k5 ?k6 ?k7 ?k8 ?_); k_extra "mine pure"))
  k_with "call ref" => (k_here; (with_reducible show wpAny _ _ (call (Value.ref 102) _) _ _ _); k_dflt ((refine' SpecP.use (gap_end_spec _ _ _ _ _ (by with_reducible assumption) (by first | with_reducible assumption | omega)) ?k1 ?k2 ?k3 ?k4 ?k5 ?k6 ?k7 ?k8 ?_); k_extra "mine pure"))
  k_with "call ref" => (k_here; (with_reducible show wpAny _ _ (call (Value.ref 137) _) _ _ _); k_dflt ((refine' SpecP.use (number_end_spec _ _ _ _ _ (by with_reducible assumption) (by first | with_reducible assumption | omega)) ?k1 ?k2 ?k3 ?k4 ?k5 ?k6 ?k7 ?k8 ?_); k_extra "mine pure"))
  k_with "call ref" => (k_here; (with_reducible show wpAny _ _ (call (Value.ref 144) _) _ _ _); k_dflt ((refine' SpecP.use (sign_end_spec _ _ _ _ _ (by with_reducible assumption) (by first | with_reducible assumption | omega) (by first | with_reducible assumption | omega)) ?k1 ?k2 ?k3 ?k4 ?k5 ?k6 ?k7 ?k8 ?_); k_extra "mine pure"))
  k_with "call ref" => (k_here; (with_reducible show wpAny _ _ (call (Value.ref 109) _) _ _ _); k_dflt ((refine' SpecP.use (remark_end_spec _ _ _ _ _ (by with_reducible assumption) (by first | with_reducible assumption | omega)) ?k1 ?k2 ?k3 ?k4 ?k5 ?k6 ?k7 ?k8 ?_); k_extra "mine pure"))
  k_with "mine s1" => ((case k1 => k_asm); (case k2 => k_asm); (case k3 => k_asm); (case k4 => k_asm))
  k_with "mine s2" => ((case k5 => k_asm); (case k6 => first | exact rfl | assumption); (case k7 => ktr_room); (case k8 => ktr_units); intro v9z n9z h9z tk9z F9z N9z R9z; obtain ⟨e9z, e8z⟩ := R9z; subst e9z; (replace e8z := e8z.symm); subst e8z; (try dsimp only); (try k_fold))
  k_with "callWith" => (with_reducible refine callWith_method1 ?_)
  k_with "call builtin:len" => (k_here; (with_reducible show wpAny _ _ (call (Value.builtin "len") [Value.ref _]) _ _ _); k_dflt (refine' len_list ?k1 ?k2 ?_; (case k1 => exact News.isList (by k_asm) (by k_mem)); (case k2 => ((try simp only [List.size_toArray, List.length_append, List.length_cons, List.length_nil]); omega)); k_whole))
  k_with "call builtin:list.append" => (k_here; (with_reducible show wpAny _ _ (call (Value.builtin _) [Value.ref _, _]) _ _ _); k_dflt (refine' append_K ?k1 ?k2 ?k3 ?_ ?z; (case k1 => k_asm); (case k2 => k_asm); (case k3 => k_upd); (case z => ((try simp only [List.size_toArray, List.length_append, List.length_cons, List.length_nil]); rw [sizeLine_eq]; omega)); k_whole); intro h9z F9z N9z; (try k_sweep))
  k_with "binaryOp Add str str" => (k_here; (with_reducible show wpAny _ _ (binaryOp Operator.Add (Value.str _ _) (Value.str _ _)) _ _ _); refine' KOpn.add ?z ?_; (case z => ((have e1 := lenSp); (have e2 := lenEm); omega)); intro t9z k9z l9z)
  k_with "call builtin:str.join" => (k_here; (with_reducible show wpAny _ _ (call (Value.builtin _) [Value.str _ _, Value.ref _]) _ _ _); k_dflt (refine' join_list (News.isList (by k_asm) (by k_mem)) ?k2 ?k3 ?_; (case k2 => assumption); (case k3 => assumption); intro tj9z kj9z))
  k_with "subscriptTail" => (k_here; (with_reducible show wpAny _ _ (subscriptTail _ _ (Value.ref _) (Value.int (-1) _)) _ _ _); k_dflt (refine' lst_end ?zl ?_; (case zl => exact News.isList (by k_asm) (by k_mem))))
  k_with "call ref" => (k_here; (with_reducible show wpAny _ _ (call (Value.ref 228) _) _ _ _); k_dflt ((refine' SpecC.use (top_spec _ ?m1 ?m2 ?m3) ?k1 ?k2 ?k3 ?k4 ?k5 ?k6 ?k7 ?k8 ?_); k_extra "mine s1"; (case m1 => k_mem); (case m2 => k_mem); (case m3 => k_mem); k_extra "mine s2"))
  k_with "call ref" => (k_here; (with_reducible show wpAny _ _ (call (Value.ref 235) _) _ _ _); k_dflt ((refine' SpecC.use (usual_depth_spec _ ?m1 ?m2 ?m3 ?m4 ?m5 ?m6 ?m7) ?k1 ?k2 ?k3 ?k4 ?k5 ?k6 ?k7 ?k8 ?_); (case k1 => k_asm); (case k2 => k_asm); (case k3 => k_asm); (case k4 => k_asm); (case m1 => k_mem); (case m2 => k_mem); (case m3 => k_mem); (case m4 => k_mem); (case m5 => k_mem); (case m6 => first | rfl | assumption); (case m7 => assumption); (case k5 => k_asm); (case k6 => first | exact rfl | assumption); (case k7 => ktr_room); (case k8 => ktr_units); intro v9z n9z h9z tk9z F9z N9z R9z; obtain ⟨⟨et9z, e9z⟩, e8z⟩ := R9z; subst e9z; (replace e8z := e8z.symm); subst e8z; (try dsimp only); (try k_fold)))
  k_with "call ref" => (k_here; (with_reducible show wpAny _ _ (call (Value.ref 263) _) _ _ _); k_dflt ((refine' SpecC.use (is_tight_spec _ ?m1 ?m2 ?m3 ?m4 ?m5 ?m6 (by with_reducible assumption) (by with_reducible assumption) (by with_reducible assumption) (by with_reducible assumption) (by with_reducible assumption) ?m7 ?m8 (by with_reducible assumption) (by with_reducible assumption)) ?k1 ?k2 ?k3 ?k4 ?k5 ?k6 ?k7 ?k8 ?_); k_extra "mine s1"; (case m1 => k_mem); (case m2 => k_mem); (case m3 => k_mem); (case m4 => k_mem); (case m5 => k_mem); (case m6 => k_mem); (case m7 => first | rfl | assumption); (case m8 => first | rfl | assumption); k_extra "mine s2"))
  k_with "call ref" => (k_here; (with_reducible show wpAny _ _ (call (Value.ref 193) _) _ _ _); k_dflt ((refine' SpecP.use (is_unary_spec _ _ _ _ (by with_reducible assumption) (by with_reducible assumption)) ?k1 ?k2 ?k3 ?k4 ?k5 ?k6 ?k7 ?k8 ?_); k_extra "mine pure"))
  k_with "mine f1" => ((case k1 => k_asm); (case k2 => k_asm); (case k3 => k_asm); (case k4 => first | exact news_tup (news_tup (by k_asm)) | exact news_tup (by k_asm) | k_asm); (case hF => (refine' FmtAt.intro ?zr ?zp ?zb ?zl ?zd; (case zr => assumption); (case zp => assumption); (case zb => assumption); (case zl => assumption); (case zd => assumption))))
  k_with "mine f2" => ((case k5 => k_asm); (case k6 => first | exact rfl | assumption); (case k7 => ktr_room); (case k8 => ktr_units); intro v9z n9z h9z tk9z F9z N9z R9z; obtain ⟨e9z, R9z, p9z⟩ := R9z; subst e9z; obtain ⟨dx9z, ra9z, pa9z, ba9z, bx9z, bd9z, kt9z, kb9z, ar9z, ap9z, nr9z, np9z, nb9z, bef9z, td9z, to9z, ta9z, tw9z, tb9z, ts9z, bl9z, e8z, hr9z, hp9z, hb9z, hl9z, hd9z⟩ := R9z; subst e8z; (replace p9z := (Option.some.inj p9z).symm); subst p9z; (try dsimp only [endRowF, writeF, beginF, writeAtF, bracketF, finishF] at N9z hr9z hp9z hb9z hl9z hd9z);  (try k_sweep); (try dsimp only); (try k_fold))
  k_with "mine f3" => ((case k5 => k_asm); (case k6 => first | exact rfl | assumption); (case k7 => ktr_room); (case k8 => ktr_units); intro v9z n9z h9z tk9z F9z N9z R9z; obtain ⟨e9z, R9z⟩ := R9z; subst e9z; obtain ⟨dx9z, ra9z, pa9z, ba9z, bx9z, bd9z, kt9z, kb9z, ar9z, ap9z, nr9z, np9z, nb9z, bef9z, td9z, to9z, ta9z, tw9z, tb9z, ts9z, bl9z, e8z, hr9z, hp9z, hb9z, hl9z, hd9z⟩ := R9z; subst e8z; (try dsimp only [endRowF, writeF, beginF, writeAtF, bracketF, finishF] at N9z hr9z hp9z hb9z hl9z hd9z);  (try k_sweep); (try dsimp only); (try k_fold))
  k_with "call ref" => (k_here; (with_reducible show wpAny _ _ (call (Value.ref 242) _) _ _ _); k_dflt ((refine' SpecC.use (end_row_spec _ _ _ _ _ ?hF ?hf) ?k1 ?k2 ?k3 ?k4 ?k5 ?k6 ?k7 ?k8 ?_); k_extra "mine f1"; (case hf => (first | assumption | exact Fit.upd (by assumption))); k_extra "mine f2"))
  k_with "call ref" => (k_here; (with_reducible show wpAny _ _ (call (Value.ref 249) _) _ _ _); k_dflt ((refine' SpecC.use (write_spec _ _ _ _ _ _ _ ?hF ?hw (by assumption) (by assumption) (by assumption)) ?k1 ?k2 ?k3 ?k4 ?k5 ?k6 ?k7 ?k8 ?_); k_extra "mine f1"; (case hw => assumption); k_extra "mine f2"))
  k_with "execs cons" => (k_here; (with_reducible rename News _ _ _ ((_, { cls := Value.type "tuple", data := Data.seq _ }) :: _) => zN9z); (replace zN9z := news_tup zN9z))
  k_with "execs nil" => (k_here; (with_reducible rename News _ _ _ ((_, { cls := Value.type "tuple", data := Data.seq _ }) :: _) => zN9z); (replace zN9z := news_tup zN9z))
  k_with "call ref" => (k_here; (with_reducible show wpAny _ _ (call (Value.ref 284) _) _ _ _); k_dflt ((refine' SpecC.use (begin_fields_spec _ _ _ _ _ ?hF ?hf) ?k1 ?k2 ?k3 ?k4 ?k5 ?k6 ?k7 ?k8 ?_); k_extra "mine f1"; (case hf => (first | assumption | exact Fit.upd (by assumption))); k_extra "mine f2"))
  k_with "call ref" => (k_here; (with_reducible show wpAny _ _ (call (Value.ref 347) _) _ _ _); k_dflt ((refine' SpecC.use (bracket_spec _ _ _ _ _ _ _ ?hF ?hw (by assumption) (by assumption) (by assumption) ?hh) ?k1 ?k2 ?k3 ?k4 ?k5 ?k6 ?k7 ?k8 ?_); k_extra "mine f1"; (case hw => assumption); (case hh => first | rfl | assumption); k_extra "mine f2"))
  k_with "call ref" => (k_here; (with_reducible show wpAny _ _ (call (Value.ref 354) _) _ _ _); k_dflt ((refine' SpecC.use (finish_spec _ _ _ _ _ _ ?hF ?hf ?hu) ?k1 ?k2 ?k3 ?k4 ?k5 ?k6 ?k7 ?k8 ?_); k_extra "mine f1"; (case hf => (first | assumption | exact Fit.upd (by assumption))); (case hu => assumption); k_extra "mine f2"))
  k_with "call ref" => (k_here; (with_reducible show wpAny _ _ (call (Value.ref 256) _) _ _ _); k_dflt ((refine' SpecC.use (write_at_spec _ _ _ _ _ _ _ _ ?hF ?hf (by assumption) (by assumption)) ?k1 ?k2 ?k3 ?k4 ?k5 ?k6 ?k7 ?k8 ?_); k_extra "mine f1"; (case hf => (first | assumption | exact Fit.upd (by assumption))); k_extra "mine f2"))
  k_with "call builtin:list.append" => (k_here; (with_reducible show wpAny _ _ (call (Value.builtin _) [Value.ref _, _]) _ _ _); k_dflt (refine' append_K ?k1 ?k2 ?k3 ?_ ?z; (case k1 => k_asm); (case k2 => k_asm); (case k3 => k_upd); (case z => ((rw [strs_size (by with_reducible assumption)]); (simp only [if_true]); rw [sizeLine_eq]; omega)); k_whole); intro h9z F9z N9z; (try k_sweep))
  trivial
noncomputable def remF (S : FS) (d : Int) (t : Str) : FS :=
  { endRowF S with rows := (endRowF S).rows ++ [Txt.mul (Str.ofString " ") (2 * d) ++ t], arm := true }
theorem remark_spec0 (w : World) (x : Addr) (rest : Led) (S : FS) (d : Int) (i : Itm) (news : Led) (hF : FmtAt w x rest S news) (hfie : S.fie = false) (hp0 : S.pieces = []) (hb0 : S.bro = false)
    (hf1 : S.rows.length ≤ 1000) (hd0 : 0 ≤ d) (hd1 : d ≤ 100) (hlen : i.text.length ≤ 1000) (hfit : Fit S) (hud : UD S.top.word S.top.body S.top.sect S.top.base d)
    (hi1 : (i.ix, instObj 91 i.dx) ∈ rest) (hi2 : (i.dx, itmD w i) ∈ rest) :
    SpecC w 5 270 [.ref x, .ref i.ix, .bool true] news (fun v n' => v = .none ∧ FmtAt w x rest (remF S d i.text) n') := by
  obtain ⟨rows, pieces, before, depth, ⟨wo, bas, bod, sec, lab⟩, low, ob, arr, nam, hea, fie, bop, una, sta, bro, arm⟩ := S
  dsimp only at hfie hp0 hb0 hf1 hud
  subst hfie hp0 hb0
  obtain ⟨dx, ra, pa, ba, bx, bd, kt, kb, ar, ap, nr, np, nb, bef, td, to, ta, tw, tb, ts, bl, rfl, hr, hp, hb, hl, hdis⟩ := hF
  (try dsimp only at hr hp hb hl hdis)
  (try dsimp only)
  unfold SpecC
  intro mean mg mb dp un gd cn cs a ccd cl outer A₀ base h₀ L m s Q E hB9 hF9 hX9 hN9 hT9 hk hd hu hret
  refine wpAny_call ?_
  k_dflt (refine' code_def (binds := [(Str.ofString "self", Value.ref x), (Str.ofString "item", Value.ref i.ix), (Str.ofString "leads", Value.bool true)]) ?k1 ?k2 ?k3 ?k4 ?k5 ?kA ?kF ?kK ?k6 ?k7 ?k8 ?k9 ?kB ?_ ?c2 ?c3 ?c4 ?c5; (case kA => exact rfl); (case kF => exact rfl); (case kK => assumption); (case k1 => k_asm); (case k2 => k_asm); (case k3 => k_asm); (case k4 => k_asm); (case k5 => k_asm); (case k6 => k_is); (case k7 => k_is); (case k8 => ktr_room); (case k9 => exact BindsTo.of_eq rfl); (case c5 => decide); (case kB => exact locs rfl); (case c2 => exact rfl); (case c3 => exact rfl); (case c4 => exact rfl); k_whole; intro g' L' h' FG' F' N' B' X' T'; (try dsimp only))
  refine gen_tok ?_
  intro tk0
  refine noE ?_
  have z3 : ap.size = 0 := strs_size hp
  have hap : ap = #[] := Array.eq_empty_of_size_eq_zero z3
  subst hap
  have z1 := strs_size hr
  have hj1 : (i.ix, instObj 91 i.dx) ∈ lowL w bl low ++ rest := List.mem_append_right _ hi1
  have hj2 : (i.dx, itmD w i) ∈ lowL w bl low ++ rest := List.mem_append_right _ hi2
  k_steps
  refine' hret _ _ _ _ ?zF ?zN ⟨rfl, FmtAt.intro ?zr ?zp ?zb ?zl ?zd⟩
  case zF => k_asm
  case zN => k_asm
  case zr => exact strs_push (by assumption) _ _
  case zp => assumption
  case zb => assumption
  case zl => assumption
  case zd => assumption
theorem strs_nil_eq {a : Array Value} (h : StrsAre a.toList []) : a = #[] := Array.eq_empty_of_size_eq_zero (strs_size h)
theorem lnsRem1 : True := by
  k_with "execs cons" => (k_here; (with_reducible rename StrsAre _ [] => hz9z); k_dflt ((have ez9z := strs_nil_eq hz9z); subst ez9z))
  k_with "call builtin:list.append" => (k_here; (with_reducible show wpAny _ _ (call (Value.builtin _) [Value.ref _, _]) _ _ _); k_dflt (refine' append_K ?k1 ?k2 ?k3 ?_ ?z; (case k1 => k_asm); (case k2 => k_asm); (case k3 => k_upd); (case z => ((rw [strs_size (by with_reducible assumption)]); (simp only [if_true]); rw [sizeLine_eq]; omega)); k_whole); intro h9z F9z N9z; (try k_sweep))
  trivial
theorem remark_spec1 (w : World) (x : Addr) (rest : Led) (S : FS) (d : Int) (i : Itm) (news : Led) (hF : FmtAt w x rest S news) (hfie : S.fie = true)
    (hf1 : (endRowF { S with fie := false }).rows.length ≤ 1000) (hd0 : 0 ≤ d) (hd1 : d ≤ 100) (hlen : i.text.length ≤ 1000) (hfit : Fit S) (hfit2 : Fit (beginF S)) (hud : UD S.top.word S.top.body S.top.sect S.top.base d)
    (hi1 : (i.ix, instObj 91 i.dx) ∈ rest) (hi2 : (i.dx, itmD w i) ∈ rest) :
    SpecC w 5 270 [.ref x, .ref i.ix, .bool true] news (fun v n' => v = .none ∧ FmtAt w x rest (remF (beginF S) d i.text) n') := by
  obtain ⟨rows, pieces, before, depth, ⟨wo, bas, bod, sec, lab⟩, low, ob, arr, nam, hea, fie, bop, una, sta, bro, arm⟩ := S
  dsimp only at hfie hud
  subst hfie
  (try dsimp only [endRowF] at hf1)
  obtain ⟨dx, ra, pa, ba, bx, bd, kt, kb, ar, ap, nr, np, nb, bef, td, to, ta, tw, tb, ts, bl, rfl, hr, hp, hb, hl, hdis⟩ := hF
  (try dsimp only at hr hp hb hl hdis)
  (try dsimp only)
  unfold SpecC
  intro mean mg mb dp un gd cn cs a ccd cl outer A₀ base h₀ L m s Q E hB9 hF9 hX9 hN9 hT9 hk hd hu hret
  refine wpAny_call ?_
  k_dflt (refine' code_def (binds := [(Str.ofString "self", Value.ref x), (Str.ofString "item", Value.ref i.ix), (Str.ofString "leads", Value.bool true)]) ?k1 ?k2 ?k3 ?k4 ?k5 ?kA ?kF ?kK ?k6 ?k7 ?k8 ?k9 ?kB ?_ ?c2 ?c3 ?c4 ?c5; (case kA => exact rfl); (case kF => exact rfl); (case kK => assumption); (case k1 => k_asm); (case k2 => k_asm); (case k3 => k_asm); (case k4 => k_asm); (case k5 => k_asm); (case k6 => k_is); (case k7 => k_is); (case k8 => ktr_room); (case k9 => exact BindsTo.of_eq rfl); (case c5 => decide); (case kB => exact locs rfl); (case c2 => exact rfl); (case c3 => exact rfl); (case c4 => exact rfl); k_whole; intro g' L' h' FG' F' N' B' X' T'; (try dsimp only))
  refine gen_tok ?_
  intro tk0
  refine noE ?_
  have hj : ∀ bl', (i.ix, instObj 91 i.dx) ∈ lowL w bl' low ++ rest ∧ (i.dx, itmD w i) ∈ lowL w bl' low ++ rest := fun bl' => ⟨List.mem_append_right _ hi1, List.mem_append_right _ hi2⟩
  k_steps
  refine' hret _ _ _ _ ?zF ?zN ⟨rfl, FmtAt.intro ?zr ?zp ?zb ?zl ?zd⟩
  case zF => k_asm
  case zN => k_asm
  case zr => exact strs_push (by assumption) _ _
  case zp => assumption
  case zb => assumption
  case zl => assumption
  case zd => assumption
--FMTFS endRowF, writeF, beginF, writeAtF, bracketF, finishF
theorem lnsTok0 : True := by
  w_top off
  k_with_none
  k_with "mine pure" => ((case k1 => k_asm); (case k2 => k_asm); (case k3 => k_asm); (case k4 => k_asm); (case k5 => k_asm); (case k6 => first | exact rfl | assumption); (case k7 => ktr_room); (case k8 => ktr_units); intro t9z h9z tk9z F9z N9z; (try dsimp only); (try k_fold))
  k_with "execs cons" => (k_here; (with_reducible show wpAny _ _ _ _ _ (Shared.mk _ _ _ (_ + _) _)); refine gen_tok ?_; intro tk9z)
  k_with "execs nil" => (k_here; (with_reducible show wpAny _ _ _ _ _ (Shared.mk _ _ _ (_ + _) _)); refine gen_tok ?_; intro tk9z)
  k_with "WiPost" => (dsimp only [WiPost])
  k_with "mine bool" => (simp only [isLetter, isHex, leS, *, decide_true, decide_false, Bool.not_true, Bool.not_false, Bool.and_true, Bool.true_and, Bool.and_false, Bool.false_and, Bool.or_true, Bool.true_or, Bool.or_false, Bool.false_or, not_true_eq_false, not_false_eq_true])
  k_with "WgPost" => (dsimp only [WgPost])
  k_with "mine steps" => repeat' (first | (k_unfold; (try dsimp only)) | (k_end; wrow_close) | ((fail_if_success (with_reducible show wpAny _ _ (exec (Stmt.While _ _ _ _) _) _ _ _)); (fail_if_success (with_reducible show wpAny _ _ (exec (Stmt.For _ _ _ _ _) _) _ _ _)); walk1) | (dsimp only; walk1) | (leave1; walk_say "STEP leave1"; try dsimp only) | fail "no step")
  k_with "call ref" => (k_here; (with_reducible show wpAny _ _ (call (Value.ref 67) _) _ _ _); k_dflt ((refine' SpecP.use (is_digit_spec _ _ _) ?k1 ?k2 ?k3 ?k4 ?k5 ?k6 ?k7 ?k8 ?_); k_extra "mine pure"))
  k_with "call ref" => (k_here; (with_reducible show wpAny _ _ (call (Value.ref 60) _) _ _ _); k_dflt ((refine' SpecP.use (is_letter_spec _ _ _) ?k1 ?k2 ?k3 ?k4 ?k5 ?k6 ?k7 ?k8 ?_); k_extra "mine pure"))
  k_with "call ref" => (k_here; (with_reducible show wpAny _ _ (call (Value.ref 74) _) _ _ _); k_dflt ((refine' SpecP.use (is_hex_spec _ _ _) ?k1 ?k2 ?k3 ?k4 ?k5 ?k6 ?k7 ?k8 ?_); k_extra "mine pure"))
  k_with "call ref" => (k_here; (with_reducible show wpAny _ _ (call (Value.ref 123) _) _ _ _); k_dflt ((refine' SpecP.use (word_end_spec _ _ _ _ _ (by with_reducible assumption) (by first | with_reducible assumption | omega)) ?k1 ?k2 ?k3 ?k4 ?k5 ?k6 ?k7 ?k8 ?_); k_extra "mine pure"))
  k_with "call ref" => (k_here; (with_reducible show wpAny _ _ (call (Value.ref 130) _) _ _ _); k_dflt ((refine' SpecP.use (digits_end_spec _ _ _ _ _ (by with_reducible assumption) (by first | with_reducible assumption | omega)) ?k1 ?k2 ?k3 ?k4 ?k5 ?k6 ?k7 ?k8 ?_); k_extra "mine pure"))
  k_with "call ref" => (k_here; (with_reducible show wpAny _ _ (call (Value.ref 102) _) _ _ _); k_dflt ((refine' SpecP.use (gap_end_spec _ _ _ _ _ (by with_reducible assumption) (by first | with_reducible assumption | omega)) ?k1 ?k2 ?k3 ?k4 ?k5 ?k6 ?k7 ?k8 ?_); k_extra "mine pure"))
  k_with "call ref" => (k_here; (with_reducible show wpAny _ _ (call (Value.ref 137) _) _ _ _); k_dflt ((refine' SpecP.use (number_end_spec _ _ _ _ _ (by with_reducible assumption) (by first | with_reducible assumption | omega)) ?k1 ?k2 ?k3 ?k4 ?k5 ?k6 ?k7 ?k8 ?_); k_extra "mine pure"))
  k_with "call ref" => (k_here; (with_reducible show wpAny _ _ (call (Value.ref 144) _) _ _ _); k_dflt ((refine' SpecP.use (sign_end_spec _ _ _ _ _ (by with_reducible assumption) (by first | with_reducible assumption | omega) (by first | with_reducible assumption | omega)) ?k1 ?k2 ?k3 ?k4 ?k5 ?k6 ?k7 ?k8 ?_); k_extra "mine pure"))
  k_with "call ref" => (k_here; (with_reducible show wpAny _ _ (call (Value.ref 109) _) _ _ _); k_dflt ((refine' SpecP.use (remark_end_spec _ _ _ _ _ (by with_reducible assumption) (by first | with_reducible assumption | omega)) ?k1 ?k2 ?k3 ?k4 ?k5 ?k6 ?k7 ?k8 ?_); k_extra "mine pure"))
  k_with "mine s1" => ((case k1 => k_asm); (case k2 => k_asm); (case k3 => k_asm); (case k4 => k_asm))
  k_with "mine s2" => ((case k5 => k_asm); (case k6 => first | exact rfl | assumption); (case k7 => ktr_room); (case k8 => ktr_units); intro v9z n9z h9z tk9z F9z N9z R9z; obtain ⟨e9z, e8z⟩ := R9z; subst e9z; (replace e8z := e8z.symm); subst e8z; (try dsimp only); (try k_fold))
  k_with "callWith" => (with_reducible refine callWith_method1 ?_)
  k_with "call builtin:len" => (k_here; (with_reducible show wpAny _ _ (call (Value.builtin "len") [Value.ref _]) _ _ _); k_dflt (refine' len_list ?k1 ?k2 ?_; (case k1 => exact News.isList (by k_asm) (by k_mem)); (case k2 => ((try simp only [List.size_toArray, List.length_append, List.length_cons, List.length_nil]); omega)); k_whole))
  k_with "call builtin:list.append" => (k_here; (with_reducible show wpAny _ _ (call (Value.builtin _) [Value.ref _, _]) _ _ _); k_dflt (refine' append_K ?k1 ?k2 ?k3 ?_ ?z; (case k1 => k_asm); (case k2 => k_asm); (case k3 => k_upd); (case z => ((try simp only [List.size_toArray, List.length_append, List.length_cons, List.length_nil]); rw [sizeLine_eq]; omega)); k_whole); intro h9z F9z N9z; (try k_sweep))
  k_with "binaryOp Add str str" => (k_here; (with_reducible show wpAny _ _ (binaryOp Operator.Add (Value.str _ _) (Value.str _ _)) _ _ _); refine' KOpn.add ?z ?_; (case z => ((have e1 := lenSp); (have e2 := lenEm); omega)); intro t9z k9z l9z)
  k_with "call builtin:str.join" => (k_here; (with_reducible show wpAny _ _ (call (Value.builtin _) [Value.str _ _, Value.ref _]) _ _ _); k_dflt (refine' join_list (News.isList (by k_asm) (by k_mem)) ?k2 ?k3 ?_; (case k2 => assumption); (case k3 => assumption); intro tj9z kj9z))
  k_with "subscriptTail" => (k_here; (with_reducible show wpAny _ _ (subscriptTail _ _ (Value.ref _) (Value.int (-1) _)) _ _ _); k_dflt (refine' lst_end ?zl ?_; (case zl => exact News.isList (by k_asm) (by k_mem))))
  k_with "call ref" => (k_here; (with_reducible show wpAny _ _ (call (Value.ref 228) _) _ _ _); k_dflt ((refine' SpecC.use (top_spec _ ?m1 ?m2 ?m3) ?k1 ?k2 ?k3 ?k4 ?k5 ?k6 ?k7 ?k8 ?_); k_extra "mine s1"; (case m1 => k_mem); (case m2 => k_mem); (case m3 => k_mem); k_extra "mine s2"))
  k_with "call ref" => (k_here; (with_reducible show wpAny _ _ (call (Value.ref 235) _) _ _ _); k_dflt ((refine' SpecC.use (usual_depth_spec _ ?m1 ?m2 ?m3 ?m4 ?m5 ?m6 ?m7) ?k1 ?k2 ?k3 ?k4 ?k5 ?k6 ?k7 ?k8 ?_); (case k1 => k_asm); (case k2 => k_asm); (case k3 => k_asm); (case k4 => k_asm); (case m1 => k_mem); (case m2 => k_mem); (case m3 => k_mem); (case m4 => k_mem); (case m5 => k_mem); (case m6 => first | rfl | assumption); (case m7 => assumption); (case k5 => k_asm); (case k6 => first | exact rfl | assumption); (case k7 => ktr_room); (case k8 => ktr_units); intro v9z n9z h9z tk9z F9z N9z R9z; obtain ⟨⟨et9z, e9z⟩, e8z⟩ := R9z; subst e9z; (replace e8z := e8z.symm); subst e8z; (try dsimp only); (try k_fold)))
  k_with "call ref" => (k_here; (with_reducible show wpAny _ _ (call (Value.ref 263) _) _ _ _); k_dflt ((refine' SpecC.use (is_tight_spec _ ?m1 ?m2 ?m3 ?m4 ?m5 ?m6 (by with_reducible assumption) (by with_reducible assumption) (by with_reducible assumption) (by with_reducible assumption) (by with_reducible assumption) ?m7 ?m8 (by with_reducible assumption) (by with_reducible assumption)) ?k1 ?k2 ?k3 ?k4 ?k5 ?k6 ?k7 ?k8 ?_); k_extra "mine s1"; (case m1 => k_mem); (case m2 => k_mem); (case m3 => k_mem); (case m4 => k_mem); (case m5 => k_mem); (case m6 => k_mem); (case m7 => first | rfl | assumption); (case m8 => first | rfl | assumption); k_extra "mine s2"))
  k_with "call ref" => (k_here; (with_reducible show wpAny _ _ (call (Value.ref 193) _) _ _ _); k_dflt ((refine' SpecP.use (is_unary_spec _ _ _ _ (by with_reducible assumption) (by with_reducible assumption)) ?k1 ?k2 ?k3 ?k4 ?k5 ?k6 ?k7 ?k8 ?_); k_extra "mine pure"))
  k_with "mine f1" => ((case k1 => k_asm); (case k2 => k_asm); (case k3 => k_asm); (case k4 => first | exact news_tup (news_tup (by k_asm)) | exact news_tup (by k_asm) | k_asm); (case hF => (refine' FmtAt.intro ?zr ?zp ?zb ?zl ?zd; (case zr => assumption); (case zp => assumption); (case zb => assumption); (case zl => assumption); (case zd => assumption))))
  k_with "mine f2" => ((case k5 => k_asm); (case k6 => first | exact rfl | assumption); (case k7 => ktr_room); (case k8 => ktr_units); intro v9z n9z h9z tk9z F9z N9z R9z; obtain ⟨e9z, R9z, p9z⟩ := R9z; subst e9z; obtain ⟨dx9z, ra9z, pa9z, ba9z, bx9z, bd9z, kt9z, kb9z, ar9z, ap9z, nr9z, np9z, nb9z, bef9z, td9z, to9z, ta9z, tw9z, tb9z, ts9z, bl9z, e8z, hr9z, hp9z, hb9z, hl9z, hd9z⟩ := R9z; subst e8z; (replace p9z := (Option.some.inj p9z).symm); subst p9z; (try dsimp only [endRowF, writeF, beginF, writeAtF, bracketF, finishF] at N9z hr9z hp9z hb9z hl9z hd9z);  (try k_sweep); (try dsimp only); (try k_fold))
  k_with "mine f3" => ((case k5 => k_asm); (case k6 => first | exact rfl | assumption); (case k7 => ktr_room); (case k8 => ktr_units); intro v9z n9z h9z tk9z F9z N9z R9z; obtain ⟨e9z, R9z⟩ := R9z; subst e9z; obtain ⟨dx9z, ra9z, pa9z, ba9z, bx9z, bd9z, kt9z, kb9z, ar9z, ap9z, nr9z, np9z, nb9z, bef9z, td9z, to9z, ta9z, tw9z, tb9z, ts9z, bl9z, e8z, hr9z, hp9z, hb9z, hl9z, hd9z⟩ := R9z; subst e8z; (try dsimp only [endRowF, writeF, beginF, writeAtF, bracketF, finishF] at N9z hr9z hp9z hb9z hl9z hd9z);  (try k_sweep); (try dsimp only); (try k_fold))
  k_with "call ref" => (k_here; (with_reducible show wpAny _ _ (call (Value.ref 242) _) _ _ _); k_dflt ((refine' SpecC.use (end_row_spec _ _ _ _ _ ?hF ?hf) ?k1 ?k2 ?k3 ?k4 ?k5 ?k6 ?k7 ?k8 ?_); k_extra "mine f1"; (case hf => (first | assumption | exact Fit.upd (by assumption))); k_extra "mine f2"))
  k_with "call ref" => (k_here; (with_reducible show wpAny _ _ (call (Value.ref 249) _) _ _ _); k_dflt ((refine' SpecC.use (write_spec _ _ _ _ _ _ _ ?hF ?hw (by assumption) (by assumption) (by assumption)) ?k1 ?k2 ?k3 ?k4 ?k5 ?k6 ?k7 ?k8 ?_); k_extra "mine f1"; (case hw => assumption); k_extra "mine f2"))
  k_with "execs cons" => (k_here; (with_reducible rename News _ _ _ ((_, { cls := Value.type "tuple", data := Data.seq _ }) :: _) => zN9z); (replace zN9z := news_tup zN9z))
  k_with "execs nil" => (k_here; (with_reducible rename News _ _ _ ((_, { cls := Value.type "tuple", data := Data.seq _ }) :: _) => zN9z); (replace zN9z := news_tup zN9z))
  k_with "call ref" => (k_here; (with_reducible show wpAny _ _ (call (Value.ref 284) _) _ _ _); k_dflt ((refine' SpecC.use (begin_fields_spec _ _ _ _ _ ?hF ?hf) ?k1 ?k2 ?k3 ?k4 ?k5 ?k6 ?k7 ?k8 ?_); k_extra "mine f1"; (case hf => (first | assumption | exact Fit.upd (by assumption))); k_extra "mine f2"))
  k_with "call ref" => (k_here; (with_reducible show wpAny _ _ (call (Value.ref 347) _) _ _ _); k_dflt ((refine' SpecC.use (bracket_spec _ _ _ _ _ _ _ ?hF ?hw (by assumption) (by assumption) (by assumption) ?hh) ?k1 ?k2 ?k3 ?k4 ?k5 ?k6 ?k7 ?k8 ?_); k_extra "mine f1"; (case hw => assumption); (case hh => first | rfl | assumption); k_extra "mine f2"))
  k_with "call ref" => (k_here; (with_reducible show wpAny _ _ (call (Value.ref 354) _) _ _ _); k_dflt ((refine' SpecC.use (finish_spec _ _ _ _ _ _ ?hF ?hf ?hu) ?k1 ?k2 ?k3 ?k4 ?k5 ?k6 ?k7 ?k8 ?_); k_extra "mine f1"; (case hf => (first | assumption | exact Fit.upd (by assumption))); (case hu => assumption); k_extra "mine f2"))
  k_with "call ref" => (k_here; (with_reducible show wpAny _ _ (call (Value.ref 256) _) _ _ _); k_dflt ((refine' SpecC.use (write_at_spec _ _ _ _ _ _ _ _ ?hF ?hf (by assumption) (by assumption)) ?k1 ?k2 ?k3 ?k4 ?k5 ?k6 ?k7 ?k8 ?_); k_extra "mine f1"; (case hf => (first | assumption | exact Fit.upd (by assumption))); k_extra "mine f2"))
  trivial
inductive SignOk (S : FS) (k t : Str) : FS → Prop
  | opn (d : Int) : WF S d → TokOk k t → S.hea = false → t = Str.ofString "(" → SignOk S k t (bracketF S d k t)
  | rst (d : Int) : WF S d → TokOk k t → (t == Str.ofString "|") = false → ([Str.ofString "(", Str.ofString "[", Str.ofString "{"].any fun x => x == t) = false → Fit (writeF S d k t) → SignOk S k t (signF S d k t)
theorem sign_spec (w : World) (x : Addr) (rest : Led) (S S' : FS) (i : Itm) (news : Led) (hF : FmtAt w x rest S news) (hS : SignOk S i.kind i.text S')
    (hi1 : (i.ix, instObj 91 i.dx) ∈ rest) (hi2 : (i.dx, itmD w i) ∈ rest) :
    SpecC w 6 340 [.ref x, .ref i.ix] news (fun v n' => v = .none ∧ FmtAt w x rest S' n' ∧ topA n' = topA news) := by
  cases hS with
  | opn d hwf hok hhe ht => exact sign_open_spec w x rest S d i news hF hwf hok hi1 hi2 ht hhe
  | rst d hwf hok h1 h2 hfit => exact sign_rest_spec w x rest S d i news hF hwf hok hi1 hi2 h1 h2 hfit hwf.ud
inductive TokenOk (S : FS) (k t : Str) : FS → Prop
  | word (S' : FS) : k = Str.ofString "word" → S.fie = false → WordOk S k t S' → TokenOk S k t S'
  | sign (S' : FS) : k = Str.ofString "sign" → S.fie = false → SignOk S k t S' → TokenOk S k t S'
  | base (S' : FS) : k = Str.ofString "sign" → S.fie = true → t = Str.ofString "(" → SignOk S k t S' → TokenOk S k t S'
  | othr (d : Int) : (k == Str.ofString "word") = false → (k == Str.ofString "sign") = false → S.fie = false → WF S d → TokOk k t → TokenOk S k t (writeF S d k t)
theorem lnsTok1 : True := by
  k_with "call ref" => (k_here; (with_reducible show wpAny _ _ (call (Value.ref 298) _) _ _ _); k_dflt ((refine' SpecC.use (word_spec _ _ _ _ _ _ _ ?hF (by assumption) (by assumption) (by assumption)) ?k1 ?k2 ?k3 ?k4 ?k5 ?k6 ?k7 ?k8 ?_); k_extra "mine f1";  k_extra "mine f3"))
  k_with "call ref" => (k_here; (with_reducible show wpAny _ _ (call (Value.ref 340) _) _ _ _); k_dflt ((refine' SpecC.use (sign_spec _ _ _ _ _ _ _ ?hF (by assumption) (by assumption) (by assumption)) ?k1 ?k2 ?k3 ?k4 ?k5 ?k6 ?k7 ?k8 ?_); k_extra "mine f1";  k_extra "mine f2"))
  trivial
theorem token_spec (w : World) (x : Addr) (rest : Led) (S S' : FS) (i : Itm) (news : Led) (hF : FmtAt w x rest S news) (hS : TokenOk S i.kind i.text S')
    (hi1 : (i.ix, instObj 91 i.dx) ∈ rest) (hi2 : (i.dx, itmD w i) ∈ rest) :
    SpecC w 8 277 [.ref x, .ref i.ix] news (fun v n' => v = .none ∧ FmtAt w x rest S' n') := by
  cases hS with
  | word _ hk9 hfie hW =>
    have q1 : (i.kind == Str.ofString "word") = true := by rw [hk9]; decide +kernel
    obtain ⟨rows, pieces, before, depth, ⟨wo, bas, bod, sec, lab⟩, low, ob, arr, nam, hea, fie, bop, una, sta, bro, arm⟩ := S
    dsimp only at hfie
    subst hfie
    obtain ⟨dx, ra, pa, ba, bx, bd, kt, kb, ar, ap, nr, np, nb, bef, td, to, ta, tw, tb, ts, bl, rfl, hr, hp, hb, hl, hdis⟩ := hF
    (try dsimp only at hr hp hb hl hdis)
    (try dsimp only)
    unfold SpecC
    intro mean mg mb dp un gd cn cs a ccd cl outer A₀ base h₀ L m s Q E hB9 hF9 hX9 hN9 hT9 hk hd hu hret
    refine wpAny_call ?_
    k_dflt (refine' code_def (binds := [(Str.ofString "self", Value.ref x), (Str.ofString "item", Value.ref i.ix)]) ?k1 ?k2 ?k3 ?k4 ?k5 ?kA ?kF ?kK ?k6 ?k7 ?k8 ?k9 ?kB ?_ ?c2 ?c3 ?c4 ?c5; (case kA => exact rfl); (case kF => exact rfl); (case kK => assumption); (case k1 => k_asm); (case k2 => k_asm); (case k3 => k_asm); (case k4 => k_asm); (case k5 => k_asm); (case k6 => k_is); (case k7 => k_is); (case k8 => ktr_room); (case k9 => exact BindsTo.of_eq rfl); (case c5 => decide); (case kB => exact locs rfl); (case c2 => exact rfl); (case c3 => exact rfl); (case c4 => exact rfl); k_whole; intro g' L' h' FG' F' N' B' X' T'; (try dsimp only))
    refine gen_tok ?_
    intro tk0
    refine noE ?_
    k_steps
    refine' hret _ _ _ _ ?zF ?zN ⟨rfl, FmtAt.intro ?zr ?zp ?zb ?zl ?zd⟩
    case zF => k_asm
    case zN => first | k_asm | exact news_tl (by k_asm) | exact news_tl (news_tl (by k_asm))
    case zr => assumption
    case zp => assumption
    case zb => assumption
    case zl => assumption
    case zd => assumption
  | sign _ hk9 hfie hW =>
    have q1 : (i.kind == Str.ofString "word") = false := by rw [hk9]; decide +kernel
    have q2 : (i.kind == Str.ofString "sign") = true := by rw [hk9]; decide +kernel
    obtain ⟨rows, pieces, before, depth, ⟨wo, bas, bod, sec, lab⟩, low, ob, arr, nam, hea, fie, bop, una, sta, bro, arm⟩ := S
    dsimp only at hfie
    subst hfie
    obtain ⟨dx, ra, pa, ba, bx, bd, kt, kb, ar, ap, nr, np, nb, bef, td, to, ta, tw, tb, ts, bl, rfl, hr, hp, hb, hl, hdis⟩ := hF
    (try dsimp only at hr hp hb hl hdis)
    (try dsimp only)
    unfold SpecC
    intro mean mg mb dp un gd cn cs a ccd cl outer A₀ base h₀ L m s Q E hB9 hF9 hX9 hN9 hT9 hk hd hu hret
    refine wpAny_call ?_
    k_dflt (refine' code_def (binds := [(Str.ofString "self", Value.ref x), (Str.ofString "item", Value.ref i.ix)]) ?k1 ?k2 ?k3 ?k4 ?k5 ?kA ?kF ?kK ?k6 ?k7 ?k8 ?k9 ?kB ?_ ?c2 ?c3 ?c4 ?c5; (case kA => exact rfl); (case kF => exact rfl); (case kK => assumption); (case k1 => k_asm); (case k2 => k_asm); (case k3 => k_asm); (case k4 => k_asm); (case k5 => k_asm); (case k6 => k_is); (case k7 => k_is); (case k8 => ktr_room); (case k9 => exact BindsTo.of_eq rfl); (case c5 => decide); (case kB => exact locs rfl); (case c2 => exact rfl); (case c3 => exact rfl); (case c4 => exact rfl); k_whole; intro g' L' h' FG' F' N' B' X' T'; (try dsimp only))
    refine gen_tok ?_
    intro tk0
    refine noE ?_
    k_steps
    refine' hret _ _ _ _ ?zF ?zN ⟨rfl, FmtAt.intro ?zr ?zp ?zb ?zl ?zd⟩
    case zF => k_asm
    case zN => first | k_asm | exact news_tl (by k_asm) | exact news_tl (news_tl (by k_asm))
    case zr => assumption
    case zp => assumption
    case zb => assumption
    case zl => assumption
    case zd => assumption
  | base _ hk9 hfie ht hW =>
    have q1 : (i.kind == Str.ofString "word") = false := by rw [hk9]; decide +kernel
    have q2 : (i.kind == Str.ofString "sign") = true := by rw [hk9]; decide +kernel
    have q3 : (i.text != Str.ofString "(") = false := by rw [ht]; decide +kernel
    obtain ⟨rows, pieces, before, depth, ⟨wo, bas, bod, sec, lab⟩, low, ob, arr, nam, hea, fie, bop, una, sta, bro, arm⟩ := S
    dsimp only at hfie
    subst hfie
    obtain ⟨dx, ra, pa, ba, bx, bd, kt, kb, ar, ap, nr, np, nb, bef, td, to, ta, tw, tb, ts, bl, rfl, hr, hp, hb, hl, hdis⟩ := hF
    (try dsimp only at hr hp hb hl hdis)
    (try dsimp only)
    unfold SpecC
    intro mean mg mb dp un gd cn cs a ccd cl outer A₀ base h₀ L m s Q E hB9 hF9 hX9 hN9 hT9 hk hd hu hret
    refine wpAny_call ?_
    k_dflt (refine' code_def (binds := [(Str.ofString "self", Value.ref x), (Str.ofString "item", Value.ref i.ix)]) ?k1 ?k2 ?k3 ?k4 ?k5 ?kA ?kF ?kK ?k6 ?k7 ?k8 ?k9 ?kB ?_ ?c2 ?c3 ?c4 ?c5; (case kA => exact rfl); (case kF => exact rfl); (case kK => assumption); (case k1 => k_asm); (case k2 => k_asm); (case k3 => k_asm); (case k4 => k_asm); (case k5 => k_asm); (case k6 => k_is); (case k7 => k_is); (case k8 => ktr_room); (case k9 => exact BindsTo.of_eq rfl); (case c5 => decide); (case kB => exact locs rfl); (case c2 => exact rfl); (case c3 => exact rfl); (case c4 => exact rfl); k_whole; intro g' L' h' FG' F' N' B' X' T'; (try dsimp only))
    refine gen_tok ?_
    intro tk0
    refine noE ?_
    k_steps
    refine' hret _ _ _ _ ?zF ?zN ⟨rfl, FmtAt.intro ?zr ?zp ?zb ?zl ?zd⟩
    case zF => k_asm
    case zN => first | k_asm | exact news_tl (by k_asm) | exact news_tl (news_tl (by k_asm))
    case zr => assumption
    case zp => assumption
    case zb => assumption
    case zl => assumption
    case zd => assumption
  | othr d hk1 hk2 hfie hwf hok =>
    obtain ⟨rows, pieces, before, depth, ⟨wo, bas, bod, sec, lab⟩, low, ob, arr, nam, hea, fie, bop, una, sta, bro, arm⟩ := S
    dsimp only at hfie
    subst hfie
    obtain ⟨dx, ra, pa, ba, bx, bd, kt, kb, ar, ap, nr, np, nb, bef, td, to, ta, tw, tb, ts, bl, rfl, hr, hp, hb, hl, hdis⟩ := hF
    (try dsimp only at hr hp hb hl hdis)
    (try dsimp only)
    unfold SpecC
    intro mean mg mb dp un gd cn cs a ccd cl outer A₀ base h₀ L m s Q E hB9 hF9 hX9 hN9 hT9 hk hd hu hret
    refine wpAny_call ?_
    k_dflt (refine' code_def (binds := [(Str.ofString "self", Value.ref x), (Str.ofString "item", Value.ref i.ix)]) ?k1 ?k2 ?k3 ?k4 ?k5 ?kA ?kF ?kK ?k6 ?k7 ?k8 ?k9 ?kB ?_ ?c2 ?c3 ?c4 ?c5; (case kA => exact rfl); (case kF => exact rfl); (case kK => assumption); (case k1 => k_asm); (case k2 => k_asm); (case k3 => k_asm); (case k4 => k_asm); (case k5 => k_asm); (case k6 => k_is); (case k7 => k_is); (case k8 => ktr_room); (case k9 => exact BindsTo.of_eq rfl); (case c5 => decide); (case kB => exact locs rfl); (case c2 => exact rfl); (case c3 => exact rfl); (case c4 => exact rfl); k_whole; intro g' L' h' FG' F' N' B' X' T'; (try dsimp only))
    refine gen_tok ?_
    intro tk0
    refine noE ?_
    k_steps
    refine' hret _ _ _ _ ?zF ?zN ⟨rfl, FmtAt.intro ?zr ?zp ?zb ?zl ?zd⟩
    case zF => k_asm
    case zN => first | k_asm | exact news_tl (by k_asm) | exact news_tl (news_tl (by k_asm))
    case zr => assumption
    case zp => assumption
    case zb => assumption
    case zl => assumption
    case zd => assumption
theorem BefAt.grow {w : World} {add rest : Led} {v : Value} : ∀ {o : Option (Str × Str)}, BefAt w rest v o → BefAt w (add ++ rest) v o
  | none, h => h
  | some _, ⟨it, h1, h2, h3, h4⟩ => ⟨it, h1, List.mem_append_right _ h2, List.mem_append_right _ h3, h4⟩
theorem BefAt.shrink {w : World} {add rest : Led} {v : Value} (hc : ∀ p ∈ add, p.2.cls = .type "list_iterator") : ∀ {o : Option (Str × Str)}, BefAt w (add ++ rest) v o → BefAt w rest v o
  | none, h => h
  | some _, ⟨it, h1, h2, h3, h4⟩ => by
    refine ⟨it, h1, ?_, ?_, h4⟩
    · rcases List.mem_append.mp h2 with h | h
      · have := hc _ h
        have e : (instObj 91 it.dx).cls = .ref 91 := rfl
        rw [e] at this
        cases this
      · exact h
    · rcases List.mem_append.mp h3 with h | h
      · have := hc _ h
        have e : (itmD w it).cls = .type "dict" := rfl
        rw [e] at this
        exact absurd (Value.type.inj this) (by decide)
      · exact h
theorem FmtAt.grow {w : World} {x : Addr} {add rest : Led} {S : FS} {n : Led} (h : FmtAt w x rest S n) (hf : ∀ p ∈ add, ∀ q ∈ n, q.1 ≠ p.1) :
    ∃ n2, FmtAt w x (add ++ rest) S n2 ∧ ∀ p ∈ n2, p ∈ add ++ n := by
  obtain ⟨dx, ra, pa, ba, bx, bd, kt, kb, ar, ap, nr, np, nb, bef, td, to, ta, tw, tb, ts, bl, rfl, hr, hp, hb, hl, hdis⟩ := h
  obtain ⟨n1, n2, n3, n4, n5, n6, n7, n8, n9, n10, n11, n12, n13, n14, n15, n16, n17, n18, n19, n20, n21, a1, a2, a3, a4, a5, a6, a7⟩ := hdis
  have mem : ∀ p ∈ lowL w bl S.low ++ (add ++ rest), p ∈ add ∨ p ∈ lowL w bl S.low ++ rest := by
    intro p hp
    rcases List.mem_append.mp hp with hp | hp
    · exact .inr (List.mem_append_left _ hp)
    rcases List.mem_append.mp hp with hp | hp
    · exact .inl hp
    · exact .inr (List.mem_append_right _ hp)
  have all : ∀ {y : Addr} {o : Obj}, (∀ p ∈ add, (y, o).1 ≠ p.1) → (∀ p ∈ lowL w bl S.low ++ rest, p.1 ≠ y) → ∀ p ∈ lowL w bl S.low ++ (add ++ rest), p.1 ≠ y := by
    intro y o h1 h2 p hp
    rcases mem p hp with h | h
    · exact (h1 p h).symm
    · exact h2 p h
  refine ⟨_, ⟨dx, ra, pa, ba, bx, bd, kt, kb, ar, ap, nr, np, nb, bef, td, to, ta, tw, tb, ts, bl, rfl, hr, hp, hb.grow, ⟨hl.len, hl.nod, ?_⟩, ⟨n1, n2, n3, n4, n5, n6, n7, n8, n9, n10, n11, n12, n13, n14, n15, n16, n17, n18, n19, n20, n21,
    all (fun p hp => hf p hp _ (.head _)) a1, all (fun p hp => hf p hp _ (.tail _ (.head _))) a2, all (fun p hp => hf p hp _ (.tail _ (.tail _ (.head _)))) a3, all (fun p hp => hf p hp _ (.tail _ (.tail _ (.tail _ (.head _))))) a4,
    all (fun p hp => hf p hp _ (.tail _ (.tail _ (.tail _ (.tail _ (.head _)))))) a5, all (fun p hp => hf p hp _ (.tail _ (.tail _ (.tail _ (.tail _ (.tail _ (.head _))))))) a6, all (fun p hp => hf p hp _ (.tail _ (.tail _ (.tail _ (.tail _ (.tail _ (.tail _ (.head _)))))))) a7⟩⟩, ?_⟩
  · intro p hp hq
    rcases List.mem_append.mp hp with hp | hp
    · obtain ⟨q, hq1, hq2⟩ := List.mem_map.mp hq
      exact hf p hp q (.tail _ (.tail _ (.tail _ (.tail _ (.tail _ (.tail _ (.tail _ (List.mem_append_left _ hq1)))))))) hq2
    · exact hl.off p hp hq
  · intro p hp
    rcases List.mem_cons.mp hp with rfl | hp
    · exact List.mem_append_right _ (.head _)
    rcases List.mem_cons.mp hp with rfl | hp
    · exact List.mem_append_right _ (.tail _ (.head _))
    rcases List.mem_cons.mp hp with rfl | hp
    · exact List.mem_append_right _ (.tail _ (.tail _ (.head _)))
    rcases List.mem_cons.mp hp with rfl | hp
    · exact List.mem_append_right _ (.tail _ (.tail _ (.tail _ (.head _))))
    rcases List.mem_cons.mp hp with rfl | hp
    · exact List.mem_append_right _ (.tail _ (.tail _ (.tail _ (.tail _ (.head _)))))
    rcases List.mem_cons.mp hp with rfl | hp
    · exact List.mem_append_right _ (.tail _ (.tail _ (.tail _ (.tail _ (.tail _ (.head _))))))
    rcases List.mem_cons.mp hp with rfl | hp
    · exact List.mem_append_right _ (.tail _ (.tail _ (.tail _ (.tail _ (.tail _ (.tail _ (.head _)))))))
    rcases mem p hp with h | h
    · exact List.mem_append_left _ h
    · exact List.mem_append_right _ (.tail _ (.tail _ (.tail _ (.tail _ (.tail _ (.tail _ (.tail _ h)))))))
theorem FmtAt.shrink {w : World} {x : Addr} {add rest : Led} {S : FS} {n : Led} (h : FmtAt w x (add ++ rest) S n) (hc : ∀ p ∈ add, p.2.cls = .type "list_iterator") (ho : OwnOff add (rest.map (·.1))) :
    ∃ n2, FmtAt w x rest S n2 ∧ (∀ p ∈ n2, p ∈ n) ∧ (∀ p ∈ add, p ∈ n) ∧ OwnOff add (n2.map (·.1)) := by
  obtain ⟨dx, ra, pa, ba, bx, bd, kt, kb, ar, ap, nr, np, nb, bef, td, to, ta, tw, tb, ts, bl, rfl, hr, hp, hb, hl, hdis⟩ := h
  obtain ⟨n1, n2, n3, n4, n5, n6, n7, n8, n9, n10, n11, n12, n13, n14, n15, n16, n17, n18, n19, n20, n21, a1, a2, a3, a4, a5, a6, a7⟩ := hdis
  have sub : ∀ p ∈ lowL w bl S.low ++ rest, p ∈ lowL w bl S.low ++ (add ++ rest) := by
    intro p hp
    rcases List.mem_append.mp hp with hp | hp
    · exact List.mem_append_left _ hp
    · exact List.mem_append_right _ (List.mem_append_right _ hp)
  have adl : ∀ p ∈ add, p ∈ lowL w bl S.low ++ (add ++ rest) := fun p hp => List.mem_append_right _ (List.mem_append_left _ hp)
  refine ⟨_, ⟨dx, ra, pa, ba, bx, bd, kt, kb, ar, ap, nr, np, nb, bef, td, to, ta, tw, tb, ts, bl, rfl, hr, hp, hb.shrink hc, ⟨hl.len, hl.nod, fun p hp => hl.off p (List.mem_append_right _ hp)⟩, ⟨n1, n2, n3, n4, n5, n6, n7, n8, n9, n10, n11, n12, n13, n14, n15, n16, n17, n18, n19, n20, n21,
    fun p hp => a1 p (sub p hp), fun p hp => a2 p (sub p hp), fun p hp => a3 p (sub p hp), fun p hp => a4 p (sub p hp), fun p hp => a5 p (sub p hp), fun p hp => a6 p (sub p hp), fun p hp => a7 p (sub p hp)⟩⟩, ?_, ?_, ?_⟩
  · intro p hp
    rcases List.mem_cons.mp hp with rfl | hp
    · exact .head _
    rcases List.mem_cons.mp hp with rfl | hp
    · exact .tail _ (.head _)
    rcases List.mem_cons.mp hp with rfl | hp
    · exact .tail _ (.tail _ (.head _))
    rcases List.mem_cons.mp hp with rfl | hp
    · exact .tail _ (.tail _ (.tail _ (.head _)))
    rcases List.mem_cons.mp hp with rfl | hp
    · exact .tail _ (.tail _ (.tail _ (.tail _ (.head _))))
    rcases List.mem_cons.mp hp with rfl | hp
    · exact .tail _ (.tail _ (.tail _ (.tail _ (.tail _ (.head _)))))
    rcases List.mem_cons.mp hp with rfl | hp
    · exact .tail _ (.tail _ (.tail _ (.tail _ (.tail _ (.tail _ (.head _))))))
    exact .tail _ (.tail _ (.tail _ (.tail _ (.tail _ (.tail _ (.tail _ (sub p hp)))))))
  · exact fun p hp => .tail _ (.tail _ (.tail _ (.tail _ (.tail _ (.tail _ (.tail _ (adl p hp)))))))
  · intro p hp b hb
    obtain ⟨q, hq, rfl⟩ := List.mem_map.mp hb
    rcases List.mem_cons.mp hq with rfl | hq
    · exact a1 p (adl p hp)
    rcases List.mem_cons.mp hq with rfl | hq
    · exact a2 p (adl p hp)
    rcases List.mem_cons.mp hq with rfl | hq
    · exact a3 p (adl p hp)
    rcases List.mem_cons.mp hq with rfl | hq
    · exact a4 p (adl p hp)
    rcases List.mem_cons.mp hq with rfl | hq
    · exact a5 p (adl p hp)
    rcases List.mem_cons.mp hq with rfl | hq
    · exact a6 p (adl p hp)
    rcases List.mem_cons.mp hq with rfl | hq
    · exact a7 p (adl p hp)
    rcases List.mem_append.mp hq with hq | hq
    · exact fun e => hl.off p (List.mem_append_left _ hp) (e ▸ List.mem_map_of_mem hq)
    · exact ho p hp _ (List.mem_map_of_mem hq)
theorem FmtAt.restOff {w : World} {x : Addr} {rest : Led} {S : FS} {n : Led} (h : FmtAt w x rest S n) : ∀ p ∈ rest, p ∈ n := by
  obtain ⟨dx, ra, pa, ba, bx, bd, kt, kb, ar, ap, nr, np, nb, bef, td, to, ta, tw, tb, ts, bl, rfl, hr, hp, hb, hl, hdis⟩ := h
  exact fun p hp => .tail _ (.tail _ (.tail _ (.tail _ (.tail _ (.tail _ (.tail _ (List.mem_append_right _ hp)))))))
--FMTFS endRowF, writeF, beginF, writeAtF, bracketF, finishF
theorem lnsRun0 : True := by
  w_top off
  k_with_none
  k_with "mine pure" => ((case k1 => k_asm); (case k2 => k_asm); (case k3 => k_asm); (case k4 => k_asm); (case k5 => k_asm); (case k6 => first | exact rfl | assumption); (case k7 => ktr_room); (case k8 => ktr_units); intro t9z h9z tk9z F9z N9z; (try dsimp only); (try k_fold))
  k_with "execs cons" => (k_here; (with_reducible show wpAny _ _ _ _ _ (Shared.mk _ _ _ (_ + _) _)); refine gen_tok ?_; intro tk9z)
  k_with "execs nil" => (k_here; (with_reducible show wpAny _ _ _ _ _ (Shared.mk _ _ _ (_ + _) _)); refine gen_tok ?_; intro tk9z)
  k_with "WiPost" => (dsimp only [WiPost])
  k_with "mine bool" => (simp only [isLetter, isHex, leS, *, decide_true, decide_false, Bool.not_true, Bool.not_false, Bool.and_true, Bool.true_and, Bool.and_false, Bool.false_and, Bool.or_true, Bool.true_or, Bool.or_false, Bool.false_or, not_true_eq_false, not_false_eq_true])
  k_with "WgPost" => (dsimp only [WgPost])
  k_with "mine steps" => repeat' (first | (k_unfold; (try dsimp only)) | (k_end; wrow_close) | ((fail_if_success (with_reducible show wpAny _ _ (exec (Stmt.While _ _ _ _) _) _ _ _)); (fail_if_success (with_reducible show wpAny _ _ (exec (Stmt.For _ _ _ _ _) _) _ _ _)); walk1) | (dsimp only; walk1) | (leave1; walk_say "STEP leave1"; try dsimp only) | fail "no step")
  k_with "call ref" => (k_here; (with_reducible show wpAny _ _ (call (Value.ref 67) _) _ _ _); k_dflt ((refine' SpecP.use (is_digit_spec _ _ _) ?k1 ?k2 ?k3 ?k4 ?k5 ?k6 ?k7 ?k8 ?_); k_extra "mine pure"))
  k_with "call ref" => (k_here; (with_reducible show wpAny _ _ (call (Value.ref 60) _) _ _ _); k_dflt ((refine' SpecP.use (is_letter_spec _ _ _) ?k1 ?k2 ?k3 ?k4 ?k5 ?k6 ?k7 ?k8 ?_); k_extra "mine pure"))
  k_with "call ref" => (k_here; (with_reducible show wpAny _ _ (call (Value.ref 74) _) _ _ _); k_dflt ((refine' SpecP.use (is_hex_spec _ _ _) ?k1 ?k2 ?k3 ?k4 ?k5 ?k6 ?k7 ?k8 ?_); k_extra "mine pure"))
  k_with "call ref" => (k_here; (with_reducible show wpAny _ _ (call (Value.ref 123) _) _ _ _); k_dflt ((refine' SpecP.use (word_end_spec _ _ _ _ _ (by with_reducible assumption) (by first | with_reducible assumption | omega)) ?k1 ?k2 ?k3 ?k4 ?k5 ?k6 ?k7 ?k8 ?_); k_extra "mine pure"))
  k_with "call ref" => (k_here; (with_reducible show wpAny _ _ (call (Value.ref 130) _) _ _ _); k_dflt ((refine' SpecP.use (digits_end_spec _ _ _ _ _ (by with_reducible assumption) (by first | with_reducible assumption | omega)) ?k1 ?k2 ?k3 ?k4 ?k5 ?k6 ?k7 ?k8 ?_); k_extra "mine pure"))
  k_with "call ref" => (k_here; (with_reducible show wpAny _ _ (call (Value.ref 102) _) _ _ _); k_dflt ((refine' SpecP.use (gap_end_spec _ _ _ _ _ (by with_reducible assumption) (by first | with_reducible assumption | omega)) ?k1 ?k2 ?k3 ?k4 ?k5 ?k6 ?k7 ?k8 ?_); k_extra "mine pure"))
  k_with "call ref" => (k_here; (with_reducible show wpAny _ _ (call (Value.ref 137) _) _ _ _); k_dflt ((refine' SpecP.use (number_end_spec _ _ _ _ _ (by with_reducible assumption) (by first | with_reducible assumption | omega)) ?k1 ?k2 ?k3 ?k4 ?k5 ?k6 ?k7 ?k8 ?_); k_extra "mine pure"))
  k_with "call ref" => (k_here; (with_reducible show wpAny _ _ (call (Value.ref 144) _) _ _ _); k_dflt ((refine' SpecP.use (sign_end_spec _ _ _ _ _ (by with_reducible assumption) (by first | with_reducible assumption | omega) (by first | with_reducible assumption | omega)) ?k1 ?k2 ?k3 ?k4 ?k5 ?k6 ?k7 ?k8 ?_); k_extra "mine pure"))
  k_with "call ref" => (k_here; (with_reducible show wpAny _ _ (call (Value.ref 109) _) _ _ _); k_dflt ((refine' SpecP.use (remark_end_spec _ _ _ _ _ (by with_reducible assumption) (by first | with_reducible assumption | omega)) ?k1 ?k2 ?k3 ?k4 ?k5 ?k6 ?k7 ?k8 ?_); k_extra "mine pure"))
  k_with "mine s1" => ((case k1 => k_asm); (case k2 => k_asm); (case k3 => k_asm); (case k4 => k_asm))
  k_with "mine s2" => ((case k5 => k_asm); (case k6 => first | exact rfl | assumption); (case k7 => ktr_room); (case k8 => ktr_units); intro v9z n9z h9z tk9z F9z N9z R9z; obtain ⟨e9z, e8z⟩ := R9z; subst e9z; (replace e8z := e8z.symm); subst e8z; (try dsimp only); (try k_fold))
  k_with "callWith" => (with_reducible refine callWith_method1 ?_)
  k_with "call builtin:len" => (k_here; (with_reducible show wpAny _ _ (call (Value.builtin "len") [Value.ref _]) _ _ _); k_dflt (refine' len_list ?k1 ?k2 ?_; (case k1 => exact News.isList (by k_asm) (by k_mem)); (case k2 => ((try simp only [List.size_toArray, List.length_append, List.length_cons, List.length_nil]); omega)); k_whole))
  k_with "call builtin:list.append" => (k_here; (with_reducible show wpAny _ _ (call (Value.builtin _) [Value.ref _, _]) _ _ _); k_dflt (refine' append_K ?k1 ?k2 ?k3 ?_ ?z; (case k1 => k_asm); (case k2 => k_asm); (case k3 => k_upd); (case z => ((try simp only [List.size_toArray, List.length_append, List.length_cons, List.length_nil]); rw [sizeLine_eq]; omega)); k_whole); intro h9z F9z N9z; (try k_sweep))
  k_with "binaryOp Add str str" => (k_here; (with_reducible show wpAny _ _ (binaryOp Operator.Add (Value.str _ _) (Value.str _ _)) _ _ _); refine' KOpn.add ?z ?_; (case z => ((have e1 := lenSp); (have e2 := lenEm); omega)); intro t9z k9z l9z)
  k_with "call builtin:str.join" => (k_here; (with_reducible show wpAny _ _ (call (Value.builtin _) [Value.str _ _, Value.ref _]) _ _ _); k_dflt (refine' join_list (News.isList (by k_asm) (by k_mem)) ?k2 ?k3 ?_; (case k2 => assumption); (case k3 => assumption); intro tj9z kj9z))
  k_with "mine f1" => ((case k1 => k_asm); (case k2 => k_asm); (case k3 => k_asm); (case k4 => first | exact news_tup (news_tup (by k_asm)) | exact news_tup (by k_asm) | k_asm); (case hF => (refine' FmtAt.intro ?zr ?zp ?zb ?zl ?zd; (case zr => assumption); (case zp => assumption); (case zb => assumption); (case zl => assumption); (case zd => assumption))))
  k_with "mine f2" => ((case k5 => k_asm); (case k6 => first | exact rfl | assumption); (case k7 => ktr_room); (case k8 => ktr_units); intro v9z n9z h9z tk9z F9z N9z R9z; obtain ⟨e9z, R9z, p9z⟩ := R9z; subst e9z; obtain ⟨dx9z, ra9z, pa9z, ba9z, bx9z, bd9z, kt9z, kb9z, ar9z, ap9z, nr9z, np9z, nb9z, bef9z, td9z, to9z, ta9z, tw9z, tb9z, ts9z, bl9z, e8z, hr9z, hp9z, hb9z, hl9z, hd9z⟩ := R9z; subst e8z; (replace p9z := (Option.some.inj p9z).symm); subst p9z; (try dsimp only [endRowF, writeF, beginF, writeAtF, bracketF, finishF] at N9z hr9z hp9z hb9z hl9z hd9z);  (try k_sweep); (try dsimp only); (try k_fold))
  k_with "mine f3" => ((case k5 => k_asm); (case k6 => first | exact rfl | assumption); (case k7 => ktr_room); (case k8 => ktr_units); intro v9z n9z h9z tk9z F9z N9z R9z; obtain ⟨e9z, R9z⟩ := R9z; subst e9z; obtain ⟨dx9z, ra9z, pa9z, ba9z, bx9z, bd9z, kt9z, kb9z, ar9z, ap9z, nr9z, np9z, nb9z, bef9z, td9z, to9z, ta9z, tw9z, tb9z, ts9z, bl9z, e8z, hr9z, hp9z, hb9z, hl9z, hd9z⟩ := R9z; subst e8z; (try dsimp only [endRowF, writeF, beginF, writeAtF, bracketF, finishF] at N9z hr9z hp9z hb9z hl9z hd9z);  (try k_sweep); (try dsimp only); (try k_fold))
  k_with "call ref" => (k_here; (with_reducible show wpAny _ _ (call (Value.ref 242) _) _ _ _); k_dflt ((refine' SpecC.use (end_row_spec _ _ _ _ _ ?hF ?hf) ?k1 ?k2 ?k3 ?k4 ?k5 ?k6 ?k7 ?k8 ?_); k_extra "mine f1"; (case hf => (first | assumption | exact Fit.upd (by assumption))); k_extra "mine f2"))
  trivial
inductive StepOk : FS → Bool → Str → Str → FS → Bool → Prop
  | gap (S : FS) (b : Bool) (k t : Str) : k = Str.ofString "gap" → t.length ≤ 16777216 → StepOk S b k t S (if (Builtin.Str.occurrences t (Str.ofString "\n") 0 t.length 1).isEmpty = true then b else true)
  | rem0 (S : FS) (d : Int) (k t : Str) : k = Str.ofString "remark" → S.fie = false → S.pieces = [] → S.bro = false → S.rows.length ≤ 1000 → 0 ≤ d → d ≤ 100 → t.length ≤ 1000 → Fit S → UD S.top.word S.top.body S.top.sect S.top.base d → StepOk S true k t (remF S d t) false
  | rem1 (S : FS) (d : Int) (k t : Str) : k = Str.ofString "remark" → S.fie = true → (endRowF { S with fie := false }).rows.length ≤ 1000 → 0 ≤ d → d ≤ 100 → t.length ≤ 1000 → Fit S → Fit (beginF S) → UD S.top.word S.top.body S.top.sect S.top.base d → StepOk S true k t (remF (beginF S) d t) false
  | tok (S S' : FS) (b : Bool) (k t : Str) : (k == Str.ofString "stray") = false → (k == Str.ofString "gap") = false → (k == Str.ofString "remark") = false → TokenOk S k t S' → StepOk S b k t S' false
theorem StepOk.inv {S S2 : FS} {b b2 : Bool} {k t : Str} (h : StepOk S b k t S2 b2) :
    (k = Str.ofString "gap" ∧ t.length ≤ 16777216 ∧ S2 = S ∧ b2 = (if (Builtin.Str.occurrences t (Str.ofString "\n") 0 t.length 1).isEmpty = true then b else true)) ∨
    (∃ d, b = true ∧ b2 = false ∧ S2 = remF S d t ∧ k = Str.ofString "remark" ∧ S.fie = false ∧ S.pieces = [] ∧ S.bro = false ∧ S.rows.length ≤ 1000 ∧ 0 ≤ d ∧ d ≤ 100 ∧ t.length ≤ 1000 ∧ Fit S ∧ UD S.top.word S.top.body S.top.sect S.top.base d) ∨
    (∃ d, b = true ∧ b2 = false ∧ S2 = remF (beginF S) d t ∧ k = Str.ofString "remark" ∧ S.fie = true ∧ (endRowF { S with fie := false }).rows.length ≤ 1000 ∧ 0 ≤ d ∧ d ≤ 100 ∧ t.length ≤ 1000 ∧ Fit S ∧ Fit (beginF S) ∧ UD S.top.word S.top.body S.top.sect S.top.base d) ∨
    (b2 = false ∧ (k == Str.ofString "stray") = false ∧ (k == Str.ofString "gap") = false ∧ (k == Str.ofString "remark") = false ∧ TokenOk S k t S2) := by
  cases h with
  | gap => exact .inl ⟨by assumption, by assumption, rfl, rfl⟩
  | rem0 => exact .inr (.inl ⟨_, rfl, rfl, rfl, by assumption, by assumption, by assumption, by assumption, by assumption, by assumption, by assumption, by assumption, by assumption, by assumption⟩)
  | rem1 => exact .inr (.inr (.inl ⟨_, rfl, rfl, rfl, by assumption, by assumption, by assumption, by assumption, by assumption, by assumption, by assumption, by assumption, by assumption⟩))
  | tok => exact .inr (.inr (.inr ⟨rfl, by assumption, by assumption, by assumption, by assumption⟩))
inductive RunOk : FS → Bool → List (Str × Str) → FS → Prop
  | nil (S : FS) (b : Bool) : RunOk S b [] S
  | cons (S : FS) (b : Bool) (k t : Str) (S1 : FS) (b1 : Bool) (its : List (Str × Str)) (S' : FS) : StepOk S b k t S1 b1 → RunOk S1 b1 its S' → RunOk S b ((k, t) :: its) S'
noncomputable def outF (S : FS) : Str := Txt.join (Str.ofString "") ((endRowF S).rows.map fun r => r ++ Str.ofString "\n")
theorem lnsRun1 : True := by
  k_with "call ref" => (k_here; (with_reducible show wpAny _ _ (call (Value.ref 165) _) _ _ _); k_dflt ((refine' SpecC.use (source_items_spec _ _ _ _ _ (by with_reducible assumption) (by with_reducible assumption)) ?k1 ?k2 ?k3 ?k4 ?k5 ?k6 ?k7 ?k8 ?_); (case k1 => k_asm); (case k2 => k_asm); (case k3 => k_asm); (case k4 => k_asm); (case k5 => k_asm); (case k6 => first | exact rfl | assumption); (case k7 => ktr_room); (case k8 => ktr_units); intro v9z n9z h9z tk9z F9z N9z R9z; obtain ⟨l9z, nn9z, is9z, e9z, e8z, e7z, o9z, lt9z⟩ := R9z; subst e9z e8z; (try dsimp only); (try k_fold)))
  k_with "call ref" => (k_here; (with_reducible show wpAny _ _ (call (Value.ref 357) _) _ _ _); k_dflt ((refine' SpecC.use (formatter_spec _ _) ?k1 ?k2 ?k3 ?k4 ?k5 ?k6 ?k7 ?k8 ?_); (case k1 => k_asm); (case k2 => k_asm); (case k3 => k_asm); (case k4 => k_asm); (case k5 => k_asm); (case k6 => first | exact rfl | assumption); (case k7 => ktr_room); (case k8 => ktr_units); intro v9z n9z h9z tk9z F9z N9z R9z; obtain ⟨x9z, e9z, hF9z, l9z⟩ := R9z; subst e9z; (try dsimp only); (try k_fold)))
  k_with "call ref" => (k_here; (with_reducible show wpAny _ _ (call (Value.ref 270) _) _ _ _); k_dflt ((first | refine' SpecC.use (remark_spec0 _ _ _ _ _ _ _ (by assumption) (by assumption) (by assumption) (by assumption) (by assumption) (by assumption) (by assumption) (by assumption) (by assumption) (by assumption) (by assumption) (by assumption)) ?k1 ?k2 ?k3 ?k4 ?k5 ?k6 ?k7 ?k8 ?_ | refine' SpecC.use (remark_spec1 _ _ _ _ _ _ _ (by assumption) (by assumption) (by assumption) (by assumption) (by assumption) (by assumption) (by assumption) (by assumption) (by assumption) (by assumption) (by assumption)) ?k1 ?k2 ?k3 ?k4 ?k5 ?k6 ?k7 ?k8 ?_); (case k1 => k_asm); (case k2 => k_asm); (case k3 => k_asm); (case k4 => k_asm); (case k5 => k_asm); (case k6 => first | exact rfl | assumption); (case k7 => ktr_room); (case k8 => ktr_units); intro v9z n9z h9z tk9z F9z N9z R9z; obtain ⟨e9z, R9z⟩ := R9z; subst e9z; (try dsimp only); (try k_fold)))
  k_with "call ref" => (k_here; (with_reducible show wpAny _ _ (call (Value.ref 277) _) _ _ _); k_dflt ((refine' SpecC.use (token_spec _ _ _ _ _ _ _ (by assumption) (by assumption) (by assumption) (by assumption)) ?k1 ?k2 ?k3 ?k4 ?k5 ?k6 ?k7 ?k8 ?_); (case k1 => k_asm); (case k2 => k_asm); (case k3 => k_asm); (case k4 => k_asm); (case k5 => k_asm); (case k6 => first | exact rfl | assumption); (case k7 => ktr_room); (case k8 => ktr_units); intro v9z n9z h9z tk9z F9z N9z R9z; obtain ⟨e9z, R9z⟩ := R9z; subst e9z; (try dsimp only); (try k_fold)))
  trivial
theorem strs_get : ∀ {vs : List Value} {ys : List Str}, StrsAre vs ys → ∀ (i : Nat) (v : Value), vs[i]? = some v → ∃ a, ys[i]? = some a ∧ ∃ t, v = .str a t
  | _, _, .nil, i, v, h => by simp at h
  | _, _, .cons y t r, i, v, h => by
    cases i with
    | zero =>
      simp only [List.getElem?_cons_zero, Option.some.injEq] at h
      exact ⟨y, by simp, t, h.symm⟩
    | succ i =>
      simp only [List.getElem?_cons_succ] at h ⊢
      exact strs_get r i v h
theorem lenNl : (Str.ofString "\n").length = 1 := by decide +kernel
theorem lnsRun2 : True := by
  k_with "eval ListComp" => (k_here; k_dflt (refine LCg.ListComp_U (F₀ := by k_asm) (by rfl) (by decide) (by rfl) (by decide) (by rfl) ?_))
  k_with "binaryOp Add str str" => (k_here; (with_reducible show wpAny _ _ (binaryOp Operator.Add (Value.str _ _) (Value.str _ _)) _ _ _); refine' KOpn.add ?z ?_; (case z => ((have e1 := lenNl); omega)); intro t9z k9z l9z)
  trivial
noncomputable def mRun (src : Str) (ts : Tok) (x : Addr) (b : Bool) (u : Option Value) : Str → Option Value := fun y => if y = Str.ofString "item" then u else if y = Str.ofString "leads" then some (.bool b) else if y = Str.ofString "writer" then some (.ref x) else if y = Str.ofString "source" then some (.str src ts) else none
noncomputable def SrcPost (w : World) (its : List (Str × Str)) (g' : Heap) (L' : Addr) (m : Str → Option Value) (n9 : Led) (s : Shared) (xv : Value) (s₁ : Shared) : Prop :=
  ∃ l nn is h tk, xv = .ref l ∧ s₁ = { s with heap := h, toks := tk } ∧ Fr g' L' h m ∧ News g' L' h ((l, listOf (is.map itRef).toArray nn) :: (itmsL w is ++ n9)) ∧ is.map itKT = its ∧ (∀ p ∈ itmsL w is ++ n9, p.1 ≠ l) ∧ ∀ p ∈ n9, p.1 < l ∧ ∀ q ∈ itmsL w is, p.1 < q.1
noncomputable def JRun (w : World) (src : Str) (ts : Tok) (x : Addr) (restL : Led) (its : List (Str × Str)) (Sf : FS) (i : Nat) (m : Str → Option Value) (nx : Led) : Prop :=
  ∃ S b u, m = mRun src ts x b u ∧ RunOk S b (its.drop i) Sf ∧ FmtAt w x restL S nx
theorem FmtAt.inst {w : World} {x : Addr} {rest : Led} {S : FS} {n : Led} (h : FmtAt w x rest S n) : ∃ (dx ra pa ba : Addr) (kt : Nat → Tok) (bef : Value) (td to ta : Tok), (x, instObj 357 dx) ∈ n ∧ (dx, fmtO w kt ra pa ba bef S.depth td S.ob to S.arr ta S.nam S.hea S.fie S.bop S.una S.sta S.bro S.arm) ∈ n := by
  obtain ⟨dx, ra, pa, ba, bx, bd, kt, kb, ar, ap, nr, np, nb, bef, td, to, ta, tw, tb, ts, bl, rfl, hr, hp, hb, hl, hdis⟩ := h
  exact ⟨dx, ra, pa, ba, kt, bef, td, to, ta, .head _, .tail _ (.head _)⟩
theorem run_end {w : World} {src : Str} {ts : Tok} {x : Addr} {restL own n' : Led} {its : List (Str × Str)} {S' Sf : FS} {i : Nat} {g' h' : Heap} {L' : Addr} {m' : Str → Option Value} {b' : Bool} {u : Option Value} {s₁ : Shared} {tk' : Nat}
    (hF : FmtAt w x (own ++ restL) S' n') (N : News g' L' h' n') (F : Fr g' L' h' m') (hm : m' = mRun src ts x b' u) (hR : RunOk S' b' (its.drop (i + 1)) Sf) (hcls : ∀ p ∈ own, p.2.cls = .type "list_iterator") (hoff : OwnOff own (restL.map (·.1))) :
    InvEndG g' L' (JRun w src ts x restL its Sf (i + 1)) own s₁ { s₁ with heap := h', toks := tk' } := by
  obtain ⟨n2, h1, h2, h3, h4⟩ := hF.shrink hcls hoff
  exact InvEndG.intro F N ⟨S', b', u, hm, hR, h1⟩ h4 h2 h3
theorem formatted_spec (w : World) (src : Str) (ts : Tok) (news : Led) (its : List (Str × Str)) (S : FS) (hsz : src.length ≤ 16777216) (hin : itemsF src src.length 0 = some its) (hrun : RunOk fs0 true its S) (hfit : Fit S)
    (hrw : ∀ r ∈ (endRowF S).rows, r.length ≤ 100000) (hjn : (((endRowF S).rows.map fun r => r ++ Str.ofString "\n").map (·.length)).sum + ((endRowF S).rows.map fun r => r ++ Str.ofString "\n").length * (Str.ofString "").length ≤ 16777216) (hrl : (endRowF S).rows.length ≤ 1001) :
    SpecC w 10 366 [.str src ts] news (fun v n' => (∃ t, v = .str (outF S) t) ∧ n' = news) := by
  unfold SpecC
  intro mean mg mb dp un gd cn cs a ccd cl outer A₀ base h₀ L m s Q E hB9 hF9 hX9 hN9 hT9 hk hd hu hret
  refine wpAny_call ?_
  k_dflt (refine' code_def (binds := [(Str.ofString "source", Value.str src ts)]) ?k1 ?k2 ?k3 ?k4 ?k5 ?kA ?kF ?kK ?k6 ?k7 ?k8 ?k9 ?kB ?_ ?c2 ?c3 ?c4 ?c5; (case kA => exact rfl); (case kF => exact rfl); (case kK => assumption); (case k1 => k_asm); (case k2 => k_asm); (case k3 => k_asm); (case k4 => k_asm); (case k5 => k_asm); (case k6 => k_is); (case k7 => k_is); (case k8 => ktr_room); (case k9 => exact BindsTo.of_eq rfl); (case c5 => decide); (case kB => exact locs rfl); (case c2 => exact rfl); (case c3 => exact rfl); (case c4 => exact rfl); k_whole; intro g' L' h' FG' F' N' B' X' T'; (try dsimp only))
  refine gen_tok ?_
  intro tk0
  refine noE ?_
  k_extra "mine steps"
  rename_i F2 N2
  with_unfolding_all refine' For_invVF F2 ?k1 ?k2 ?_
  case k1 => exact rfl
  case k2 => exact rfl
  refine wpAny_mono (Q := SrcPost w its g' L' (fun y => if y = Str.ofString "leads" then some (Value.bool true) else if y = Str.ofString "writer" then some (Value.ref x9z) else List.lookup y [(Str.ofString "source", Value.str src ts)].reverse) n9z s) ?_ ?_ (fun _ _ x => x)
  · k_steps
    exact ⟨_, _, _, _, _, rfl, rfl, by k_asm, by k_asm, by assumption, by assumption, by assumption⟩
  rintro xv s₁ ⟨l, nn, is, h3, tk3, rfl, rfl, F3, N3, he, ho, hlt⟩
  obtain ⟨n2, hF2, hsub⟩ := hF9z.grow (add := (l, listOf (is.map itRef).toArray nn) :: itmsL w is) (by
    intro p hp q hq
    rcases List.mem_cons.mp hp with rfl | hp
    · exact Nat.ne_of_lt (hlt q hq).1
    · exact Nat.ne_of_lt ((hlt q hq).2 p hp))
  have N4 : News g' L' h3 n2 := fun p hp => N3 p (hsub p hp)
  generalize hrL : (l, listOf (is.map itRef).toArray nn) :: itmsL w is ++ news = restL at hF2
  have hlm : (l, listOf (is.map itRef).toArray nn) ∈ restL := by rw [← hrL]; exact List.mem_cons_self ..
  have him : ∀ it ∈ is, (it.ix, instObj 91 it.dx) ∈ restL ∧ (it.dx, itmD w it) ∈ restL := by
    intro it hit
    rw [← hrL]
    exact ⟨List.mem_append_left _ (List.mem_cons_of_mem _ (itmsL_mem hit).1), List.mem_append_left _ (List.mem_cons_of_mem _ (itmsL_mem hit).2)⟩
  refine iter_R (vs := is.map itRef) (nn := nn) (m₀ := mRun src ts x9z true none) (JRun w src ts x9z restL its S) rfl ?_ N4 (hF2.restOff _ hlm) ?_ ⟨fs0, true, none, rfl, hrun, hF2⟩ ?_ ?_
  · refine cast (congrArg _ ?_) F3
    unfold mRun
    (funext y; by_cases e0 : y = Str.ofString "item"; (focus (subst e0; rfl)); by_cases e1 : y = Str.ofString "leads"; (focus (subst e1; rfl)); by_cases e2 : y = Str.ofString "writer"; (focus (subst e2; rfl)); by_cases e3 : y = Str.ofString "source"; (focus (subst e3; rfl)); simp only [if_neg e0, beq_eq_false_iff_ne.mpr e0, if_neg e1, beq_eq_false_iff_ne.mpr e1, if_neg e2, beq_eq_false_iff_ne.mpr e2, if_neg e3, beq_eq_false_iff_ne.mpr e3, List.reverse_cons, List.reverse_nil, List.nil_append, List.cons_append, List.lookup_cons, List.lookup_nil])
  · rintro i m nx ⟨S1, b, u, hm, hR, hFm⟩
    exact hFm.restOff _ hlm
  · rintro i v m₁ news₁ h4 tk4 own hv hcls hoff ⟨S1, b, u, rfl, hR, hFm⟩ F5 N5
    rw [List.getElem?_map] at hv
    obtain ⟨it, hit, rfl⟩ := Option.map_eq_some_iff.mp hv
    have hits : its[i]? = some (it.kind, it.text) := by rw [← he, List.getElem?_map, hit]; rfl
    have hdr : its.drop i = (it.kind, it.text) :: its.drop (i + 1) := by
      obtain ⟨hlt', e⟩ := List.getElem?_eq_some_iff.mp hits
      rw [List.drop_eq_getElem_cons hlt', e]
    rw [hdr] at hR
    obtain ⟨n3, hF3, hsub3⟩ := hFm.grow (add := own) (fun p hp q hq e => hoff p hp q.1 (List.mem_map_of_mem hq) e.symm)
    have N6 : News g' L' h4 n3 := fun p hp => N5 p ((List.mem_append.mp (hsub3 p hp)).elim (fun h => List.mem_append_right _ h) (fun h => List.mem_append_left _ h))
    have hoffr : OwnOff own (restL.map (·.1)) := by
      intro p hp b hb
      obtain ⟨q, hq, rfl⟩ := List.mem_map.mp hb
      exact hoff p hp q.1 (List.mem_map_of_mem (hFm.restOff q hq))
    have hi1 : (it.ix, instObj 91 it.dx) ∈ own ++ restL := List.mem_append_right _ (him it (List.mem_of_getElem? hit)).1
    have hi2 : (it.dx, itmD w it) ∈ own ++ restL := List.mem_append_right _ (him it (List.mem_of_getElem? hit)).2
    have hj1 : (it.ix, instObj 91 it.dx) ∈ n3 := hF3.restOff _ hi1
    have hj2 : (it.dx, itmD w it) ∈ n3 := hF3.restOff _ hi2
    unfold mRun at F5
    obtain ⟨dx, ra, pa, ba, kt, bef, td, to, ta, hx1, hx2⟩ := hF3.inst
    clear N5 N4 N3 N2 hN9 hv F3 F2
    cases hR with
    | cons _ _ _ _ S2 b2 _ _ hst hR2 =>
      rcases hst.inv with ⟨hk9, hlt9, rfl, rfl⟩ | ⟨d, rfl, rfl, rfl, hk9, hfie, hp0, hb0, hf1, hd0, hd1, hlen, hfit9, hud⟩ | ⟨d, rfl, rfl, rfl, hk9, hfie, hf1, hd0, hd1, hlen, hfit9, hfit2, hud⟩ | ⟨rfl, q1, q2, q3, htok⟩
      · have q1 : (it.kind == Str.ofString "stray") = false := by rw [hk9]; decide +kernel
        have q2 : (it.kind == Str.ofString "gap") = true := by rw [hk9]; decide +kernel
        k_steps
        · refine' run_end (b' := b) (u := some (Value.ref it.ix)) hF3 ?zN ?zF ?zm ?zR hcls hoffr
          case zN => k_asm
          case zF => k_asm
          case zm => unfold mRun; (funext y; by_cases e0 : y = Str.ofString "item"; (focus (subst e0; rfl)); by_cases e1 : y = Str.ofString "leads"; (focus (subst e1; rfl)); by_cases e2 : y = Str.ofString "writer"; (focus (subst e2; rfl)); by_cases e3 : y = Str.ofString "source"; (focus (subst e3; rfl)); simp only [if_neg e0, beq_eq_false_iff_ne.mpr e0, if_neg e1, beq_eq_false_iff_ne.mpr e1, if_neg e2, beq_eq_false_iff_ne.mpr e2, if_neg e3, beq_eq_false_iff_ne.mpr e3, List.reverse_cons, List.reverse_nil, List.nil_append, List.cons_append, List.lookup_cons, List.lookup_nil])
          case zR => rw [if_pos (by assumption)] at hR2; exact hR2
        · refine' run_end (b' := true) (u := some (Value.ref it.ix)) hF3 ?zN ?zF ?zm ?zR hcls hoffr
          case zN => k_asm
          case zF => k_asm
          case zm => unfold mRun; (funext y; by_cases e0 : y = Str.ofString "item"; (focus (subst e0; rfl)); by_cases e1 : y = Str.ofString "leads"; (focus (subst e1; rfl)); by_cases e2 : y = Str.ofString "writer"; (focus (subst e2; rfl)); by_cases e3 : y = Str.ofString "source"; (focus (subst e3; rfl)); simp only [if_neg e0, beq_eq_false_iff_ne.mpr e0, if_neg e1, beq_eq_false_iff_ne.mpr e1, if_neg e2, beq_eq_false_iff_ne.mpr e2, if_neg e3, beq_eq_false_iff_ne.mpr e3, List.reverse_cons, List.reverse_nil, List.nil_append, List.cons_append, List.lookup_cons, List.lookup_nil])
          case zR => rw [if_neg (Bool.eq_false_iff.mp (by assumption))] at hR2; exact hR2
      · have q1 : (it.kind == Str.ofString "stray") = false := by rw [hk9]; decide +kernel
        have q2 : (it.kind == Str.ofString "gap") = false := by rw [hk9]; decide +kernel
        have q3 : (it.kind == Str.ofString "remark") = true := by rw [hk9]; decide +kernel
        k_steps
        refine' run_end (b' := false) (u := some (Value.ref it.ix)) ?zh ?zN ?zF ?zm ?zR hcls hoffr
        case zN => k_asm
        case zF => k_asm
        case zh => assumption
        case zm => unfold mRun; (funext y; by_cases e0 : y = Str.ofString "item"; (focus (subst e0; rfl)); by_cases e1 : y = Str.ofString "leads"; (focus (subst e1; rfl)); by_cases e2 : y = Str.ofString "writer"; (focus (subst e2; rfl)); by_cases e3 : y = Str.ofString "source"; (focus (subst e3; rfl)); simp only [if_neg e0, beq_eq_false_iff_ne.mpr e0, if_neg e1, beq_eq_false_iff_ne.mpr e1, if_neg e2, beq_eq_false_iff_ne.mpr e2, if_neg e3, beq_eq_false_iff_ne.mpr e3, List.reverse_cons, List.reverse_nil, List.nil_append, List.cons_append, List.lookup_cons, List.lookup_nil])
        case zR => exact hR2
      · have q1 : (it.kind == Str.ofString "stray") = false := by rw [hk9]; decide +kernel
        have q2 : (it.kind == Str.ofString "gap") = false := by rw [hk9]; decide +kernel
        have q3 : (it.kind == Str.ofString "remark") = true := by rw [hk9]; decide +kernel
        k_steps
        refine' run_end (b' := false) (u := some (Value.ref it.ix)) ?zh ?zN ?zF ?zm ?zR hcls hoffr
        case zN => k_asm
        case zF => k_asm
        case zh => assumption
        case zm => unfold mRun; (funext y; by_cases e0 : y = Str.ofString "item"; (focus (subst e0; rfl)); by_cases e1 : y = Str.ofString "leads"; (focus (subst e1; rfl)); by_cases e2 : y = Str.ofString "writer"; (focus (subst e2; rfl)); by_cases e3 : y = Str.ofString "source"; (focus (subst e3; rfl)); simp only [if_neg e0, beq_eq_false_iff_ne.mpr e0, if_neg e1, beq_eq_false_iff_ne.mpr e1, if_neg e2, beq_eq_false_iff_ne.mpr e2, if_neg e3, beq_eq_false_iff_ne.mpr e3, List.reverse_cons, List.reverse_nil, List.nil_append, List.cons_append, List.lookup_cons, List.lookup_nil])
        case zR => exact hR2
      · k_steps
        refine' run_end (b' := false) (u := some (Value.ref it.ix)) ?zh ?zN ?zF ?zm ?zR hcls hoffr
        case zN => k_asm
        case zF => k_asm
        case zh => assumption
        case zm => unfold mRun; (funext y; by_cases e0 : y = Str.ofString "item"; (focus (subst e0; rfl)); by_cases e1 : y = Str.ofString "leads"; (focus (subst e1; rfl)); by_cases e2 : y = Str.ofString "writer"; (focus (subst e2; rfl)); by_cases e3 : y = Str.ofString "source"; (focus (subst e3; rfl)); simp only [if_neg e0, beq_eq_false_iff_ne.mpr e0, if_neg e1, beq_eq_false_iff_ne.mpr e1, if_neg e2, beq_eq_false_iff_ne.mpr e2, if_neg e3, beq_eq_false_iff_ne.mpr e3, List.reverse_cons, List.reverse_nil, List.nil_append, List.cons_append, List.lookup_cons, List.lookup_nil])
        case zR => exact hR2
  · rintro m₁ news₁ h4 tk4 ⟨S1, b, u, rfl, hR, hFm⟩ F5 N5
    rw [List.length_map, ← he, List.drop_eq_nil_of_le (by simp)] at hR
    cases hR
    unfold mRun at F5
    clear N4 N3 N2 hN9 F3 F2
    obtain ⟨rows, pieces, before, depth, ⟨wo, bas, bod, sec, lab⟩, low, ob, arr, nam, hea, fie, bop, una, sta, bro, arm⟩ := S
    obtain ⟨dx, ra, pa, ba, bx, bd, kt, kb, ar, ap, nr, np, nb, bef, td, to, ta, tw, tb, ts9, bl, rfl, hr, hp, hb, hl, hdis⟩ := hFm
    (try dsimp only at hr hp hb hl hdis N5)
    k_steps
    have hr6 : StrsAre ar9z.toList (endRowF ⟨rows, pieces, before, depth, ⟨wo, bas, bod, sec, lab⟩, low, ob, arr, nam, hea, fie, bop, una, sta, bro, arm⟩).rows := hr9z
    unfold outF at hret
    clear hr9z hrun hfit
    generalize (endRowF ⟨rows, pieces, before, depth, ⟨wo, bas, bod, sec, lab⟩, low, ob, arr, nam, hea, fie, bop, una, sta, bro, arm⟩).rows = R at hr6 hrw hjn hrl hret
    have hsz6 := strs_size hr6
    refine LCg.CompSrc.ledger (its := ar9z) (by rfl) (by k_asm) (by k_asm) (.tail _ (.tail _ (.head _))) ?_ (fun g9 => cmp_rest (xs := R) (vs := ar9z.toList) (fun v a => ∃ t, v = .str a t) (fun r => r ++ Str.ofString "\n") ?_ ?_ ?_ ?_ ?_)
    · rw [sizeLine_eq]; omega
    · exact strs_get hr6
    · simpa using hsz6
    · exact Or.inr ⟨_, .tail _ (.tail _ (.head _)), rfl, _, rfl⟩
    · intro r v I oI C oC D m₂ ys h tk E' ha hv hC hx F N off ne
      obtain ⟨tv, rfl⟩ := hv
      have hrr := hrw r ha
      k_steps
      all_goals first | rfl | k_asm
    · intro ys hys
      k_steps
      refine hret _ _ _ _ (by k_asm) (cb_drop (by assumption) (fun p hp => ?_)) ⟨⟨_, rfl⟩, rfl⟩
      have hp2 : p ∈ restL := by rw [← hrL]; exact List.mem_append_right _ hp
      repeat (first | exact List.mem_append_right _ hp2 | (refine List.mem_cons_of_mem _ ?_))
abbrev chL (s : Str) : List Nat := s.cps.toList
theorem str_ext {a b : Str} (h : chL a = chL b) : a = b := by
  cases a with
  | mk a => cases b with
    | mk b => exact congrArg Str.mk (Array.toList_inj.mp h)
theorem ch_app (a b : Str) : chL (a ++ b) = chL a ++ chL b := by
  show (a.cps ++ b.cps).toList = _
  exact Array.toList_append ..
theorem ch_len (a : Str) : a.length = (chL a).length := by simp [PySem.Str.length, chL]
theorem em_ch : chL (Str.ofString "") = [] := by decide +kernel
theorem ch_join (sep : Str) (hs : chL sep = []) : ∀ l : List Str, chL (Txt.join sep l) = l.flatMap chL := by
  intro l
  unfold Txt.join
  rw [PySem.StrLaws.glued_eq_join]
  induction l with
  | nil => rfl
  | cons x r ih =>
    cases r with
    | nil => simp [Str.join]
    | cons y r =>
      have : Str.join sep (x :: y :: r) = x ++ sep ++ Str.join sep (y :: r) := rfl
      rw [this, ch_app, ch_app, hs, ih]
      simp
theorem ch_sL (l : List Nat) : chL (sL l) = l := rfl
noncomputable def rowS (rows pieces : List Str) (bef : Option (Fin 12)) (ob : Int) : FS :=
  ⟨rows, pieces, bef.map (fun t => (kdT t, sL (twL t))), 0, ⟨Str.ofString "", 0, false, Str.ofString "", false⟩, [], ob, 0, false, false, false, false, false, false, false, false⟩
noncomputable def sepL : Option (Fin 12) → Fin 12 → List Nat
  | none, _ => []
  | some b, t => if tightT b t = true then [] else [32]
noncomputable def ob2 (t : Fin 12) (ob : Int) : Int := if t = 7 then ob + 1 else if t = 11 then (if 0 > ob - 1 then 0 else ob - 1) else ob
/-- what stands behind the token t, the brackets open before it being ob -/
noncomputable def after : Fin 12 → Int → List (Fin 12) → List Nat
  | t, ob, [] => [10]
  | t, ob, u :: us => if t = 6 ∧ ob = 0 then 10 :: (twL u ++ after u 0 us) else sepL (some t) u ++ (twL u ++ after u (ob2 t ob) us)
noncomputable def emitE : List (Fin 12) → List Nat
  | [] => []
  | t :: ts => twL t ++ after t 0 ts
theorem after_lay : ∀ (ts : List (Fin 12)) (t : Fin 12) (ob : Int), Lay (some t) ts (after t ob ts) := by
  intro ts
  induction ts with
  | nil => exact fun t ob => .line _
  | cons u us ih =>
    intro t ob
    simp only [after]
    by_cases h : t = 6 ∧ ob = 0
    · rw [if_pos h]
      exact .gap _ 10 u us _ (.inr rfl) (ih u 0)
    · rw [if_neg h]
      simp only [sepL]
      by_cases h2 : tightT t u = true
      · rw [if_pos h2]
        exact .join t u us _ h2 (ih u _)
      · rw [if_neg h2]
        exact .gap _ 32 u us _ (.inl rfl) (ih u _)
theorem emit_lay (ts : List (Fin 12)) : Lay none ts (emitE ts) := by
  cases ts with
  | nil => exact .done _
  | cons t ts => exact .head t ts _ (after_lay ts t 0)
structure Inv (rows pieces : List Str) (bef : Option (Fin 12)) (ob : Int) (n : Nat) : Prop where
  i1 : rows.length ≤ n
  i2 : pieces.length ≤ n
  i3 : ∀ r ∈ rows, r.length ≤ 7 * n
  i4 : (pieces.flatMap chL).length ≤ 7 * n
  i5 : bef = none → pieces = [] ∧ ob = 0
  i6 : ∀ t, bef = some t → pieces ≠ []
theorem sum_len (l : List Str) : (l.map (·.length)).sum = (l.flatMap chL).length := by
  induction l with
  | nil => rfl
  | cons a l ih => simp only [List.map_cons, List.sum_cons, List.flatMap_cons, List.length_append]; rw [ih, ch_len]
theorem lenEm0 : (Str.ofString "").length = 0 := by decide +kernel
theorem Inv.fit {rows pieces : List Str} {bef : Option (Fin 12)} {ob : Int} {n : Nat} (h : Inv rows pieces bef ob n) (hn : n ≤ 40) : Fit (rowS rows pieces bef ob) := by
  have h1 := h.i1
  have h2 := h.i2
  have h4 := h.i4
  refine ⟨?_, ?_, ?_, ?_, Int.le_refl _, (by show (0 : Int) ≤ 100; decide)⟩
  · show rows.length ≤ 1000; omega
  · show pieces.length ≤ 1000; omega
  · show (pieces.map (·.length)).sum + pieces.length * _ ≤ _
    rw [sum_len, lenEm0]; omega
  · show (Txt.join _ pieces).length ≤ _
    rw [ch_len, ch_join _ em_ch]; omega
theorem tok_ok : ∀ t : Fin 12, TokOk (kdT t) (sL (twL t)) := by
  have h : ∀ t : Fin 12, (1 ≤ (sL (twL t)).length ∧ (sL (twL t)).length ≤ 1000) ∧ (Txt.item (sL (twL t)) 0 == Str.ofString "*") = false ∧ (sL (twL t) == Str.ofString "*") = false ∧ (sL (twL t) != Str.ofString "+") = true ∧ (sL (twL t) != Str.ofString "-") = true ∧ (kdT t == Str.ofString "remark") = false := by decide +kernel
  intro t
  obtain ⟨⟨a, b⟩, c, d, e, f, g⟩ := h t
  exact ⟨a, b, c, d, e, f, g⟩
theorem Inv.wf {rows pieces : List Str} {bef : Option (Fin 12)} {ob : Int} {n : Nat} (h : Inv rows pieces bef ob n) (hn : n ≤ 40) : WF (rowS rows pieces bef ob) 0 := by
  refine ⟨h.fit hn, rfl, rfl, rfl, ?_, ?_, .none rfl⟩
  · intro hb
    cases bef with
    | none => exact (h.i5 rfl).1
    | some t => cases hb
  · intro kt hb
    cases bef with
    | none => cases hb
    | some t =>
      cases hb
      exact ⟨h.i6 t rfl, tok_ok t⟩
noncomputable def addP (pieces : List Str) (bef : Option (Fin 12)) (u : Fin 12) : List Str :=
  match bef with
  | none => [Str.ofString "" ++ sL (twL u)]
  | some b => pieces ++ [(if tight b u = true then Str.ofString "" else Str.ofString " ") ++ sL (twL u)]
theorem write_row (rows pieces : List Str) (bef : Option (Fin 12)) (ob : Int) (u : Fin 12) : writeF (rowS rows pieces bef ob) 0 (kdT u) (sL (twL u)) = rowS rows (addP pieces bef u) (some u) ob := by
  cases bef with
  | none => rfl
  | some b => rfl
theorem sp_ch : chL (Str.ofString " ") = [32] := by decide +kernel
theorem addP_ch (pieces : List Str) (bef : Option (Fin 12)) (u : Fin 12) (h : bef = none → pieces = []) : (addP pieces bef u).flatMap chL = pieces.flatMap chL ++ (sepL bef u ++ twL u) := by
  cases bef with
  | none =>
    rw [h rfl]
    simp only [addP, sepL, List.flatMap_cons, List.flatMap_nil, List.append_nil, List.nil_append]
    rw [ch_app, em_ch]
    rfl
  | some b =>
    simp only [addP, sepL, List.flatMap_append, List.flatMap_cons, List.flatMap_nil, List.append_nil]
    rw [ch_app, tight_T]
    by_cases q : tightT b u = true
    · rw [if_pos q, if_pos q, em_ch]
    · rw [if_neg q, if_neg q, sp_ch]
theorem twL_len : ∀ t, (twL t).length ≤ 6 := by decide
theorem sepL_len (bef : Option (Fin 12)) (u : Fin 12) : (sepL bef u).length ≤ 1 := by
  cases bef with
  | none => simp [sepL]
  | some b => simp only [sepL]; split <;> simp
theorem addP_ne (pieces : List Str) (bef : Option (Fin 12)) (u : Fin 12) : addP pieces bef u ≠ [] := by
  cases bef <;> simp [addP]
theorem addP_n (pieces : List Str) (bef : Option (Fin 12)) (u : Fin 12) : (addP pieces bef u).length ≤ pieces.length + 1 := by
  cases bef <;> simp [addP]
theorem Inv.add {rows pieces : List Str} {bef : Option (Fin 12)} {ob : Int} {n : Nat} (h : Inv rows pieces bef ob n) (u : Fin 12) (ob' : Int) : Inv rows (addP pieces bef u) (some u) ob' (n + 1) := by
  have h1 := h.i1
  have h2 := h.i2
  have h4 := h.i4
  refine ⟨by omega, ?_, fun r hr => by have := h.i3 r hr; omega, ?_, (fun e => nomatch e), fun _ _ => addP_ne _ _ _⟩
  · have := addP_n pieces bef u; omega
  · rw [addP_ch _ _ _ (fun e => (h.i5 e).1), List.length_append, List.length_append]
    have := twL_len u
    have := sepL_len bef u
    omega
theorem mul0 : chL (Txt.mul (Str.ofString " ") (2 * 0)) = [] := by decide +kernel
noncomputable def rowT (pieces : List Str) : Str := Txt.mul (Str.ofString " ") (2 * 0) ++ Txt.join (Str.ofString "") pieces
theorem rowT_ch (pieces : List Str) : chL (rowT pieces) = pieces.flatMap chL := by
  unfold rowT
  rw [ch_app, mul0, ch_join _ em_ch]
  rfl
theorem fin_row (rows pieces : List Str) (bef : Option (Fin 12)) (ob : Int) (hp : pieces ≠ []) : finishF (rowS rows pieces bef ob) = rowS (rows ++ [rowT pieces]) [] none ob := by
  have e : nmF (Str.ofString "") (Str.ofString "") = false := by decide +kernel
  simp [finishF, endRowF, rowS, hp, e, rowT, rowText]
theorem Inv.fin {rows pieces : List Str} {bef : Option (Fin 12)} {n : Nat} (h : Inv rows pieces bef 0 n) (hp : pieces ≠ []) : Inv (rows ++ [rowT pieces]) [] none 0 (n + 1) := by
  have h1 := h.i1
  refine ⟨by simp; omega, Nat.zero_le _, ?_, Nat.zero_le _, fun _ => ⟨rfl, rfl⟩, (fun t e => nomatch e)⟩
  intro r hr
  rcases List.mem_append.mp hr with hr | hr
  · have := h.i3 r hr; omega
  · rw [List.mem_singleton.mp hr, ch_len, rowT_ch]
    have := h.i4; omega
/-- a run over tokens alone -/
inductive TokRun : FS → List (Str × Str) → FS → Prop
  | nil (S : FS) : TokRun S [] S
  | cons (S S1 S2 : FS) (k t : Str) (its : List (Str × Str)) : (k == Str.ofString "stray") = false → (k == Str.ofString "gap") = false → (k == Str.ofString "remark") = false → TokenOk S k t S1 → TokRun S1 its S2 → TokRun S ((k, t) :: its) S2
theorem run_of_tok : ∀ (its : List (Str × Str)) (S Sf : FS) (b : Bool), TokRun S (its.filter solidB) Sf → (∀ p ∈ its, solidB p = false → p.1 = Str.ofString "gap" ∧ p.2.length ≤ 16777216) → RunOk S b its Sf := by
  intro its
  induction its with
  | nil =>
    intro S Sf b h _
    cases h
    exact .nil _ _
  | cons p its ih =>
    intro S Sf b h hg
    by_cases hs : solidB p = true
    · rw [List.filter_cons_of_pos hs] at h
      obtain ⟨k, t⟩ := p
      cases h with
      | cons _ S1 _ _ _ _ q1 q2 q3 ht hr => exact .cons _ _ _ _ _ _ _ _ (.tok _ _ _ _ _ q1 q2 q3 ht) (ih _ _ _ hr (fun p hp => hg p (List.mem_cons_of_mem _ hp)))
    · rw [List.filter_cons_of_neg hs] at h
      obtain ⟨k, t⟩ := p
      obtain ⟨h1, h2⟩ := hg (k, t) (List.mem_cons_self ..) (Bool.eq_false_iff.mpr hs)
      exact .cons _ _ _ _ _ _ _ _ (.gap _ _ _ _ h1 h2) (ih _ _ _ h (fun p hp => hg p (List.mem_cons_of_mem _ hp)))
theorem kd_no : ∀ t : Fin 12, (kdT t == Str.ofString "stray") = false ∧ (kdT t == Str.ofString "gap") = false ∧ (kdT t == Str.ofString "remark") = false ∧ (kdT t == Str.ofString "word") = false := by decide +kernel
theorem kd_sign : ∀ t : Fin 12, cls t ≠ 2 → (kdT t == Str.ofString "sign") = false := by decide +kernel
/-- the state behind one more token -/
noncomputable def tokS (rows pieces : List Str) (bef : Option (Fin 12)) (ob : Int) (u : Fin 12) : FS :=
  if u = 6 ∧ ob = 0 then rowS (rows ++ [rowT (addP pieces bef u)]) [] none 0 else rowS rows (addP pieces bef u) (some u) (ob2 u ob)
theorem sg_facts : ∀ u : Fin 12, u = 4 ∨ u = 5 ∨ u = 6 ∨ u = 11 → (kdT u = Str.ofString "sign") ∧ (sL (twL u) == Str.ofString "|") = false ∧ ([Str.ofString "(", Str.ofString "[", Str.ofString "{"].any fun x => x == sL (twL u)) = false ∧
    (sL (twL u) == Str.ofString "=") = false ∧ (sL (twL u) == Str.ofString ":") = false := by decide +kernel
theorem sg_close : ∀ u : Fin 12, ([Str.ofString ")", Str.ofString "]", Str.ofString "}"].any fun x => x == sL (twL u)) = decide (u = 11) := by decide +kernel
theorem sg_semi : ∀ u : Fin 12, (sL (twL u) == Str.ofString ";") = decide (u = 6) := by decide +kernel
theorem tok_step {rows pieces : List Str} {bef : Option (Fin 12)} {ob : Int} {n : Nat} (h : Inv rows pieces bef ob n) (hn : n ≤ 36) (u : Fin 12) : TokenOk (rowS rows pieces bef ob) (kdT u) (sL (twL u)) (tokS rows pieces bef ob u) := by
  have hwf := h.wf (by omega)
  by_cases hc : cls u = 2
  · by_cases h7 : u = 7
    · subst h7
      have e : tokS rows pieces bef ob 7 = bracketF (rowS rows pieces bef ob) 0 (kdT 7) (sL (twL 7)) := by
        unfold tokS bracketF
        rw [if_neg (by simp), write_row]
        rfl
      rw [e]
      exact .sign _ (by decide +kernel) rfl (.opn 0 hwf (tok_ok 7) rfl (by decide +kernel))
    · have hu : u = 4 ∨ u = 5 ∨ u = 6 ∨ u = 11 := by
        have : ∀ u : Fin 12, cls u = 2 → u ≠ 7 → u = 4 ∨ u = 5 ∨ u = 6 ∨ u = 11 := by decide
        exact this u hc h7
      obtain ⟨q0, q1, q2, q3, q4⟩ := sg_facts u hu
      have hfw : Fit (writeF (rowS rows pieces bef ob) 0 (kdT u) (sL (twL u))) := by
        rw [write_row]
        exact (h.add u ob).fit (by omega)
      have e : tokS rows pieces bef ob u = signF (rowS rows pieces bef ob) 0 (kdT u) (sL (twL u)) := by
        unfold tokS signF
        rw [sg_close, q3, q4, sg_semi, write_row]
        have hbop : (rowS rows pieces bef ob).bop = false := rfl
        have hob : (rowS rows pieces bef ob).ob = ob := rfl
        rw [hbop, hob]
        by_cases h11 : u = 11
        · subst h11
          rw [if_neg (c := (11 : Fin 12) = 6 ∧ ob = 0) (by simp), if_pos (c := decide ((11 : Fin 12) = 11) = true) (by decide), if_neg (c := false = true) (by decide)]
          rfl
        · rw [if_neg (c := decide (u = 11) = true) (by simpa using h11), if_neg (c := false = true) (by decide), if_neg (c := false = true) (by decide)]
          by_cases h6 : u = 6
          · subst h6
            rw [if_pos (c := decide ((6 : Fin 12) = 6) = true) (by decide)]
            by_cases ho : ob = 0
            · subst ho
              rw [if_pos (c := (6 : Fin 12) = 6 ∧ (0 : Int) = 0) ⟨rfl, rfl⟩, if_pos (c := (0 : Int) = 0) rfl, fin_row _ _ _ _ (addP_ne _ _ _)]
            · rw [if_neg (c := (6 : Fin 12) = 6 ∧ ob = 0) (fun x => ho x.2), if_neg (c := ob = 0) ho]
              rfl
          · rw [if_neg (c := u = 6 ∧ ob = 0) (fun x => h6 x.1), if_neg (c := decide (u = 6) = true) (by simpa using h6)]
            unfold ob2
            rw [if_neg h7, if_neg h11]
      rw [e]
      exact .sign _ q0 rfl (.rst 0 hwf (tok_ok u) q1 q2 hfw)
  · have e : tokS rows pieces bef ob u = writeF (rowS rows pieces bef ob) 0 (kdT u) (sL (twL u)) := by
      rw [write_row]
      have h6 : u ≠ 6 := fun e => hc (by rw [e]; rfl)
      have h7 : u ≠ 7 := fun e => hc (by rw [e]; rfl)
      have h11 : u ≠ 11 := fun e => hc (by rw [e]; rfl)
      unfold tokS ob2
      rw [if_neg (fun x => h6 x.1), if_neg h7, if_neg h11]
    rw [e]
    exact .othr 0 (kd_no u).2.2.2 (kd_sign u hc) rfl hwf (tok_ok u)
noncomputable def rowsL (rows : List Str) : List Nat := rows.flatMap fun r => chL r ++ [10]
/-- what is still to come of the text -/
noncomputable def restT (pieces : List Str) : Option (Fin 12) → Int → List (Fin 12) → List Nat
  | none, _, ts => emitE ts
  | some t, ob, [] => pieces.flatMap chL ++ [10]
  | some t, ob, u :: us => pieces.flatMap chL ++ (sepL (some t) u ++ (twL u ++ after u ob us))
theorem nl_ch : chL (Str.ofString "\n") = [10] := by decide +kernel
theorem out_row (rows pieces : List Str) (bef : Option (Fin 12)) (ob : Int) : (endRowF (rowS rows pieces bef ob)).rows = if pieces = [] then rows else rows ++ [rowT pieces] := rfl
structure EndOk (S : FS) : Prop where
  fit : Fit S
  e1 : ∀ r ∈ (endRowF S).rows, r.length ≤ 100000
  e2 : (((endRowF S).rows.map fun r => r ++ Str.ofString "\n").map (·.length)).sum + ((endRowF S).rows.map fun r => r ++ Str.ofString "\n").length * (Str.ofString "").length ≤ 16777216
  e3 : (endRowF S).rows.length ≤ 1001
theorem rows_sum (B : Nat) : ∀ l : List Str, (∀ r ∈ l, r.length ≤ B) → ((l.map fun r => r ++ Str.ofString "\n").map (·.length)).sum ≤ l.length * (B + 1) := by
  intro l
  induction l with
  | nil => intro _; simp
  | cons a l ih =>
    intro h
    have h1 := ih (fun r hr => h r (List.mem_cons_of_mem _ hr))
    have h2 := h a (List.mem_cons_self ..)
    simp only [List.map_cons, List.sum_cons, List.length_cons]
    have h3 : (a ++ Str.ofString "\n").length = a.length + 1 := by
      rw [ch_len, ch_app, nl_ch, List.length_append, ← ch_len]; rfl
    rw [h3, Nat.add_mul, Nat.one_mul]
    omega
theorem Inv.endOk {rows pieces : List Str} {bef : Option (Fin 12)} {ob : Int} {n : Nat} (h : Inv rows pieces bef ob n) (hn : n ≤ 36) : EndOk (rowS rows pieces bef ob) := by
  have hr : ∀ r ∈ (endRowF (rowS rows pieces bef ob)).rows, r.length ≤ 7 * 36 := by
    rw [out_row]
    intro r hr
    split at hr
    · have := h.i3 r hr; omega
    · rcases List.mem_append.mp hr with hr | hr
      · have := h.i3 r hr; omega
      · rw [List.mem_singleton.mp hr, ch_len, rowT_ch]
        have := h.i4; omega
  have hl : (endRowF (rowS rows pieces bef ob)).rows.length ≤ 37 := by
    have := h.i1
    rw [out_row]
    split
    · omega
    · simp; omega
  refine ⟨h.fit (by omega), fun r hr2 => by have := hr r hr2; omega, ?_, by omega⟩
  have h1 := rows_sum (7 * 36) _ hr
  have h2 : (endRowF (rowS rows pieces bef ob)).rows.length * (7 * 36 + 1) ≤ 37 * (7 * 36 + 1) := Nat.mul_le_mul_right _ hl
  rw [lenEm0]
  omega
theorem out_ch (S : FS) : chL (outF S) = rowsL (endRowF S).rows := by
  unfold outF rowsL
  rw [ch_join _ em_ch]
  generalize (endRowF S).rows = l
  induction l with
  | nil => rfl
  | cons a l ih => simp only [List.map_cons, List.flatMap_cons, ih, ch_app, nl_ch]
theorem rowsL_app (a b : List Str) : rowsL (a ++ b) = rowsL a ++ rowsL b := List.flatMap_append ..
theorem after_fin (us : List (Fin 12)) : after 6 0 us = 10 :: emitE us := by
  cases us with
  | nil => rfl
  | cons v vs => simp [after, emitE]
theorem rest_cons {pieces : List Str} {bef : Option (Fin 12)} {ob : Int} (h : bef = none → pieces = [] ∧ ob = 0) (u : Fin 12) (us : List (Fin 12)) :
    restT pieces bef ob (u :: us) = pieces.flatMap chL ++ (sepL bef u ++ (twL u ++ after u ob us)) := by
  cases bef with
  | none =>
    obtain ⟨h1, h2⟩ := h rfl
    subst h1 h2
    rfl
  | some t => rfl
theorem rest_some (P : List Str) {u : Fin 12} {ob : Int} (h : ¬ (u = 6 ∧ ob = 0)) (us : List (Fin 12)) : restT P (some u) (ob2 u ob) us = P.flatMap chL ++ after u ob us := by
  cases us with
  | nil => rfl
  | cons v vs => simp only [restT, after]; rw [if_neg h]
theorem run_row : ∀ (ts : List (Fin 12)) (rows pieces : List Str) (bef : Option (Fin 12)) (ob : Int) (n : Nat), Inv rows pieces bef ob n → n + 2 * ts.length ≤ 30 →
    ∃ Sf, TokRun (rowS rows pieces bef ob) (toksT ts) Sf ∧ EndOk Sf ∧ chL (outF Sf) = rowsL rows ++ restT pieces bef ob ts := by
  intro ts
  induction ts with
  | nil =>
    intro rows pieces bef ob n h hn
    refine ⟨_, .nil _, h.endOk (by simp at hn; omega), ?_⟩
    rw [out_ch, out_row]
    cases bef with
    | none =>
      rw [if_pos (h.i5 rfl).1]
      simp [restT, emitE]
    | some t =>
      rw [if_neg (h.i6 t rfl), rowsL_app]
      simp only [restT, rowsL, List.flatMap_cons, List.flatMap_nil, List.append_nil]
      rw [rowT_ch]
  | cons u us ih =>
    intro rows pieces bef ob n h hn
    simp only [List.length_cons] at hn
    have hst := tok_step h (by omega) u
    obtain ⟨q1, q2, q3, _⟩ := kd_no u
    have key : ∀ Sf, TokRun (tokS rows pieces bef ob u) (toksT us) Sf → TokRun (rowS rows pieces bef ob) (toksT (u :: us)) Sf := fun Sf hr => .cons _ _ _ _ _ _ q1 q2 q3 hst hr
    have hP := addP_ch pieces bef u (fun e => (h.i5 e).1)
    rw [rest_cons h.i5]
    by_cases hu : u = 6 ∧ ob = 0
    · obtain ⟨rfl, rfl⟩ := hu
      have hI := (h.add 6 0).fin (addP_ne _ _ _)
      obtain ⟨Sf, h1, h2, h3⟩ := ih _ _ _ _ (n + 2) hI (by omega)
      refine ⟨Sf, key Sf ?_, h2, ?_⟩
      · unfold tokS
        rw [if_pos ⟨rfl, rfl⟩]
        exact h1
      · rw [h3, rowsL_app, after_fin]
        simp only [rowsL, List.flatMap_cons, List.flatMap_nil, List.append_nil, rowT_ch, hP, restT]
        simp only [List.append_assoc, List.cons_append, List.nil_append]
    · have hI := h.add u (ob2 u ob)
      obtain ⟨Sf, h1, h2, h3⟩ := ih _ _ _ _ (n + 1) hI (by omega)
      refine ⟨Sf, key Sf ?_, h2, ?_⟩
      · unfold tokS
        rw [if_neg hu]
        exact h1
      · rw [h3, rest_some _ hu, hP]
        simp only [List.append_assoc]
/-- what formatted wants of a text, and gives -/
noncomputable def FmtOk (src out : Str) : Prop := ∃ its S, src.length ≤ 16777216 ∧ itemsF src src.length 0 = some its ∧ RunOk fs0 true its S ∧ EndOk S ∧ outF S = out
noncomputable def SolOk (src : Str) (R : List Str) : Prop := ∃ its, src.length ≤ 16777216 ∧ itemsF src src.length 0 = some its ∧ (its.filter solidW).map (·.2) = R
theorem solid_same : ∀ p : Str × Str, solidW p = solidB p := by
  intro p
  unfold solidW solidB
  simp only [List.any_cons, List.any_nil, Bool.or_false]
  have e : ∀ a b : Str, (a == b) = (b == a) := by
    intro a b
    rw [Bool.eq_iff_iff, beq_iff_eq, beq_iff_eq]
    exact ⟨Eq.symm, Eq.symm⟩
  rw [e p.1, e p.1]
theorem toksT_snd (ts : List (Fin 12)) : (toksT ts).map (·.2) = ts.map fun t => sL (twL t) := by
  unfold toksT
  rw [List.map_map]
  rfl
/-- a text that lays out the tokens: its tokens, and what it becomes -/
theorem lay_ok {ts : List (Fin 12)} {l : List Nat} (h : Lay none ts l) (hn : ts.length ≤ 12) (hl : l.length ≤ 16777216) :
    SolOk (sL l) (ts.map fun t => sL (twL t)) ∧ FmtOk (sL l) (sL (emitE ts)) := by
  obtain ⟨its, h1, h2, h3, h4⟩ := lay_lex ts none l l.length h (Nat.le_refl _)
  have hi : itemsF (sL l) (sL l).length 0 = some its := by
    rw [sL_len]
    exact lex_A l _ 0 its (Int.le_refl _) h1
  have hlen : (sL l).length ≤ 16777216 := by rw [sL_len]; exact hl
  have hsol : its.filter solidW = toksT ts := by
    rw [← h2]
    exact congrArg (fun f => its.filter f) (funext solid_same)
  refine ⟨⟨its, hlen, hi, by rw [hsol, toksT_snd]⟩, ?_⟩
  have hI : Inv [] [] none 0 0 := ⟨Nat.le_refl _, Nat.le_refl _, (fun r hr => absurd hr List.not_mem_nil), Nat.le_refl _, fun _ => ⟨rfl, rfl⟩, (fun t e => nomatch e)⟩
  obtain ⟨Sf, r1, r2, r3⟩ := run_row ts [] [] none 0 0 hI (by omega)
  refine ⟨its, Sf, hlen, hi, run_of_tok its _ Sf true (by rw [h2]; exact r1) ?_, r2, str_ext ?_⟩
  · intro p hp hs
    obtain ⟨a, b⟩ := h3 p hp hs
    refine ⟨a, ?_⟩
    rcases b with b | b <;> (rw [b, sL_len]; decide)
  · rw [r3]
    rfl
/-- the row as the law joins it -/
noncomputable def joinR : List (Fin 12) → List Nat
  | [] => []
  | t :: ts => twL t ++ ts.flatMap fun u => 32 :: twL u
theorem tail_lay : ∀ (ts : List (Fin 12)) (t : Fin 12), Lay (some t) ts (ts.flatMap fun u => 32 :: twL u) := by
  intro ts
  induction ts with
  | nil => exact fun t => .done _
  | cons u us ih => exact fun t => .gap _ 32 u us _ (.inl rfl) (ih u)
theorem join_lay (ts : List (Fin 12)) : Lay none ts (joinR ts) := by
  cases ts with
  | nil => exact .done _
  | cons t ts => exact .head t ts _ (tail_lay ts t)
theorem ch_joinS (ts : List (Fin 12)) : Txt.join (Str.ofString " ") (ts.map fun t => sL (twL t)) = sL (joinR ts) := by
  apply str_ext
  unfold Txt.join
  rw [PySem.StrLaws.glued_eq_join]
  show _ = joinR ts
  cases ts with
  | nil => rfl
  | cons t ts =>
    induction ts generalizing t with
    | nil => simp [Str.join, joinR]
    | cons u us ih =>
      have : Str.join (Str.ofString " ") ((t :: u :: us).map fun t => sL (twL t)) = sL (twL t) ++ Str.ofString " " ++ Str.join (Str.ofString " ") ((u :: us).map fun t => sL (twL t)) := rfl
      rw [this, ch_app, ch_app, sp_ch, ih u]
      simp [joinR]
theorem flat_len (ts : List (Fin 12)) : (ts.flatMap fun u => 32 :: twL u).length ≤ 7 * ts.length := by
  induction ts with
  | nil => simp
  | cons u us ih =>
    simp only [List.flatMap_cons, List.length_append, List.length_cons]
    have := twL_len u
    omega
theorem joinR_len (ts : List (Fin 12)) : (joinR ts).length ≤ 7 * ts.length := by
  cases ts with
  | nil => simp [joinR]
  | cons t ts =>
    have := flat_len ts
    have := twL_len t
    simp only [joinR, List.length_append, List.length_cons]
    omega
theorem after_len : ∀ (ts : List (Fin 12)) (t : Fin 12) (ob : Int), (after t ob ts).length ≤ 7 * ts.length + 1 := by
  intro ts
  induction ts with
  | nil => intro t ob; simp [after]
  | cons u us ih =>
    intro t ob
    simp only [after]
    have h1 := ih u 0
    have h2 := ih u (ob2 t ob)
    have h3 := twL_len u
    have h4 := sepL_len (some t) u
    split
    · simp only [List.length_cons, List.length_append]; omega
    · simp only [List.length_cons, List.length_append]; omega
theorem emit_len (ts : List (Fin 12)) : (emitE ts).length ≤ 7 * ts.length + 7 := by
  cases ts with
  | nil => simp [emitE]
  | cons t ts =>
    have := after_len ts t 0
    have := twL_len t
    simp only [emitE, List.length_append, List.length_cons]
    omega
/-- the row's half of the law -/
theorem row_law (ts : List (Fin 12)) (hn : ts.length ≤ 12) : ∃ out : Str, FmtOk (Txt.join (Str.ofString " ") (ts.map fun t => sL (twL t))) out ∧ SolOk out (ts.map fun t => sL (twL t)) ∧ FmtOk out out ∧ out.length ≤ 1000 := by
  refine ⟨sL (emitE ts), ?_, ?_, ?_, ?_⟩
  · rw [ch_joinS]
    exact (lay_ok (join_lay ts) hn (by have := joinR_len ts; omega)).2
  · exact (lay_ok (emit_lay ts) hn (by have := emit_len ts; omega)).1
  · exact (lay_ok (emit_lay ts) hn (by have := emit_len ts; omega)).2
  · rw [sL_len]; have := emit_len ts; omega
theorem pair_law (t : Fin 12) (s : Fin 12) (hs : s = 4 ∨ s = 5) (h : wjF (kdT t) (sL (twL t)) (sL (twL s)) = false) : SolOk (sL (twL t) ++ sL (twL s)) [sL (twL t), sL (twL s)] := by
  have hT : ∀ t s : Fin 12, (s = 4 ∨ s = 5) → wjF (kdT t) (sL (twL t)) (sL (twL s)) = false → tightT t s = true := by decide +kernel
  have hl : Lay none [t, s] (twL t ++ (twL s ++ [])) := .head t [s] _ (.join t s [] _ (hT t s hs h) (.done _))
  have := (lay_ok hl (by simp) (by have := twL_len t; have := twL_len s; simp; omega)).1
  have e : sL (twL t) ++ sL (twL s) = sL (twL t ++ (twL s ++ [])) := str_ext (by rw [ch_app, List.append_nil])
  rw [e]
  exact this
noncomputable def fitC (S : FS) : Bool := decide (S.rows.length ≤ 1000) && decide (S.pieces.length ≤ 1000) && decide ((S.pieces.map (·.length)).sum + S.pieces.length * (Str.ofString "").length ≤ 16777216) && decide ((Txt.join (Str.ofString "") S.pieces).length ≤ 100000) && decide (0 ≤ S.depth) && decide (S.depth ≤ 100)
theorem fitC_ok {S : FS} (h : fitC S = true) : Fit S := by
  simp only [fitC, Bool.and_eq_true, decide_eq_true_eq] at h
  obtain ⟨⟨⟨⟨⟨a, b⟩, c⟩, d⟩, e⟩, f⟩ := h
  exact ⟨a, b, c, d, e, f⟩
noncomputable def tokC0 (k t : Str) : Bool := decide (1 ≤ t.length) && decide (t.length ≤ 1000) && !(Txt.item t 0 == Str.ofString "*") && !(t == Str.ofString "*") && (t != Str.ofString "+") && (t != Str.ofString "-") && !(k == Str.ofString "remark")
theorem tokC0_ok {k t : Str} (h : tokC0 k t = true) : TokOk k t := by
  simp only [tokC0, Bool.and_eq_true, decide_eq_true_eq, Bool.not_eq_true'] at h
  obtain ⟨⟨⟨⟨⟨⟨a, b⟩, c⟩, d⟩, e⟩, f⟩, g⟩ := h
  exact ⟨a, b, c, d, e, f, g⟩
noncomputable def udC (b : Blk) : Option Int :=
  if b.word = Str.ofString "" then some 0
  else if b.word = Str.ofString "MODULE" then (if b.body = false then (if b.sect = Str.ofString "" then some (b.base + 1) else if b.sect = Str.ofString "TYPE" then some (b.base + 2) else none) else none)
  else if b.word = Str.ofString "RECORD" then some (b.base + 1) else none
theorem udC_ok {b : Blk} {d : Int} (h : udC b = some d) : UD b.word b.body b.sect b.base d := by
  unfold udC at h
  split at h
  · cases h; exact .none (by assumption)
  split at h
  · split at h
    · split at h
      · cases h; exact .modu (by assumption) (by assumption) (by assumption)
      split at h
      · cases h; exact .modt (by assumption) (by assumption) (by assumption)
      · cases h
    · cases h
  split at h
  · cases h; exact .reco (by assumption)
  · cases h
noncomputable def befC (S : FS) : Bool :=
  match S.before with
  | none => S.pieces.isEmpty
  | some kt => !S.pieces.isEmpty && tokC0 kt.1 kt.2
noncomputable def wfC (S : FS) : Option Int := if fitC S = true then if S.una = false then if S.sta = false then if S.bro = false then if befC S = true then udC S.top else none else none else none else none else none
theorem wfC_ok {S : FS} {d : Int} (h : wfC S = some d) : WF S d := by
  unfold wfC at h
  split at h
  · split at h
    · split at h
      · split at h
        · split at h
          · rename_i h1 h2 h3 h4 h5
            refine ⟨fitC_ok h1, h2, h3, h4, ?_, ?_, udC_ok h⟩
            · intro hb
              unfold befC at h5
              rw [hb] at h5
              simpa using h5
            · intro kt hb
              unfold befC at h5
              rw [hb] at h5
              simp only [Bool.and_eq_true, Bool.not_eq_true'] at h5
              exact ⟨fun e => by rw [e] at h5; exact absurd h5.1 (by decide), tokC0_ok h5.2⟩
          · cases h
        · cases h
      · cases h
    · cases h
  · cases h
noncomputable def wordC (S : FS) (k t : Str) : Option FS :=
  if t = Str.ofString "MODULE" then (wfC S).bind fun d => if tokC0 k t = true then if S.low.length ≤ 1000 then some (partF S d k t) else none else none
  else if t = Str.ofString "RECORD" then (wfC S).bind fun d => if tokC0 k t = true then if S.low.length ≤ 1000 then some (openF S d k t) else none else none
  else if t = Str.ofString "TYPE" then (if fitC S = true then if fitC (writeAtF S (S.top.base + 1) k t) = true then if S.ob = 0 then some (sectF S k t) else none else none else none)
  else if t = Str.ofString "END" then
    (match S.low with
    | [] => none
    | b :: bs => if bs.length ≤ 1000 then if fitC { S with nam := false } = true then if fitC { endRowF { S with nam := false } with top := b, low := bs } = true then some (endF S b bs k t) else none else none else none)
  else none
theorem wordC_ok {S S' : FS} {k t : Str} (h : wordC S k t = some S') : WordOk S k t S' := by
  unfold wordC at h
  split at h
  · obtain ⟨d, hd, h⟩ := Option.bind_eq_some_iff.mp h
    split at h
    · split at h
      · cases h; exact .modu d (wfC_ok hd) (tokC0_ok (by assumption)) (by assumption) (by assumption)
      · cases h
    · cases h
  split at h
  · obtain ⟨d, hd, h⟩ := Option.bind_eq_some_iff.mp h
    split at h
    · split at h
      · cases h; exact .reco d (wfC_ok hd) (tokC0_ok (by assumption)) (by assumption) (by assumption)
      · cases h
    · cases h
  split at h
  · split at h
    · split at h
      · split at h
        · rename_i h1 h2 h3
          cases h; exact .typ (fitC_ok h1) (fitC_ok h2) h3 (by assumption)
        · cases h
      · cases h
    · cases h
  split at h
  · split at h
    · cases h
    · rename_i b bs hlow
      split at h
      · split at h
        · split at h
          · rename_i h1 h2 h3
            cases h; exact .ende b bs hlow h1 (fitC_ok h2) (fitC_ok h3) (by assumption)
          · cases h
        · cases h
      · cases h
  · cases h
noncomputable def signC (S : FS) (k t : Str) : Option FS :=
  (wfC S).bind fun d => if tokC0 k t = true then
    (if t = Str.ofString "(" then (if S.hea = false then some (bracketF S d k t) else none)
     else if (t == Str.ofString "|") = false then (if ([Str.ofString "(", Str.ofString "[", Str.ofString "{"].any fun x => x == t) = false then (if fitC (writeF S d k t) = true then some (signF S d k t) else none) else none) else none) else none
theorem signC_ok {S S' : FS} {k t : Str} (h : signC S k t = some S') : SignOk S k t S' := by
  unfold signC at h
  obtain ⟨d, hd, h⟩ := Option.bind_eq_some_iff.mp h
  split at h
  · rename_i h1
    split at h
    · split at h
      · cases h; exact .opn d (wfC_ok hd) (tokC0_ok h1) (by assumption) (by assumption)
      · cases h
    split at h
    · split at h
      · split at h
        · rename_i h3 h4 h5
          cases h; exact .rst d (wfC_ok hd) (tokC0_ok h1) h3 h4 (fitC_ok h5)
        · cases h
      · cases h
    · cases h
  · cases h
noncomputable def tokenC (S : FS) (k t : Str) : Option FS :=
  if k = Str.ofString "word" then (if S.fie = false then wordC S k t else none)
  else if k = Str.ofString "sign" then (if S.fie = false then signC S k t else if t = Str.ofString "(" then signC S k t else none)
  else if S.fie = false then (wfC S).bind fun d => if tokC0 k t = true then some (writeF S d k t) else none
  else none
theorem tokenC_ok {S S' : FS} {k t : Str} (h : tokenC S k t = some S') : TokenOk S k t S' := by
  unfold tokenC at h
  split at h
  · split at h
    · exact .word _ (by assumption) (by assumption) (wordC_ok h)
    · cases h
  split at h
  · split at h
    · exact .sign _ (by assumption) (by assumption) (signC_ok h)
    · rename_i h1
      split at h
      · exact .base _ (by assumption) (by simpa using h1) (by assumption) (signC_ok h)
      · cases h
  split at h
  · rename_i h1 h2 h3
    obtain ⟨d, hd, h⟩ := Option.bind_eq_some_iff.mp h
    split at h
    · cases h; exact .othr d (beq_eq_false_iff_ne.mpr h1) (beq_eq_false_iff_ne.mpr h2) h3 (wfC_ok hd) (tokC0_ok (by assumption))
    · cases h
  · cases h
noncomputable def stepC (S : FS) (b : Bool) (k t : Str) : Option (FS × Bool) :=
  if k = Str.ofString "gap" then (if t.length ≤ 16777216 then some (S, if (Builtin.Str.occurrences t (Str.ofString "\n") 0 t.length 1).isEmpty = true then b else true) else none)
  else if k = Str.ofString "remark" then
    (if b = true then (udC S.top).bind fun d => if 0 ≤ d then if d ≤ 100 then if t.length ≤ 1000 then if fitC S = true then
      (if S.fie = true then (if (endRowF { S with fie := false }).rows.length ≤ 1000 then if fitC (beginF S) = true then some (remF (beginF S) d t, false) else none else none)
       else if S.pieces = [] then if S.bro = false then if S.rows.length ≤ 1000 then some (remF S d t, false) else none else none else none) else none else none else none else none else none)
  else if k = Str.ofString "stray" then none
  else (tokenC S k t).map fun S' => (S', false)
theorem stepC_ok {S S' : FS} {b b' : Bool} {k t : Str} (h : stepC S b k t = some (S', b')) : StepOk S b k t S' b' := by
  unfold stepC at h
  split at h
  · split at h
    · cases h; exact .gap _ _ _ _ (by assumption) (by assumption)
    · cases h
  split at h
  · split at h
    · rename_i hb
      subst hb
      obtain ⟨d, hd, h⟩ := Option.bind_eq_some_iff.mp h
      split at h
      · split at h
        · split at h
          · split at h
            · rename_i h1 h2 h3 h4
              split at h
              · split at h
                · split at h
                  · rename_i h5 h6 h7
                    cases h; exact .rem1 S d k t (by assumption) h5 h6 h1 h2 h3 (fitC_ok h4) (fitC_ok h7) (udC_ok hd)
                  · cases h
                · cases h
              · rename_i h5
                split at h
                · split at h
                  · split at h
                    · rename_i h6 h7 h8
                      cases h; exact .rem0 S d k t (by assumption) (by simpa using h5) h6 h7 h8 h1 h2 h3 (fitC_ok h4) (udC_ok hd)
                    · cases h
                  · cases h
                · cases h
            · cases h
          · cases h
        · cases h
      · cases h
    · cases h
  split at h
  · cases h
  · rename_i h1 h2 h3
    obtain ⟨S2, hS, e⟩ := Option.map_eq_some_iff.mp h
    cases e
    exact .tok _ _ _ _ _ (beq_eq_false_iff_ne.mpr h3) (beq_eq_false_iff_ne.mpr h1) (beq_eq_false_iff_ne.mpr h2) (tokenC_ok hS)
noncomputable def runC : FS → Bool → List (Str × Str) → Option FS
  | S, _, [] => some S
  | S, b, (k, t) :: its => (stepC S b k t).bind fun q => runC q.1 q.2 its
theorem runC_ok : ∀ (its : List (Str × Str)) {S S' : FS} {b : Bool}, runC S b its = some S' → RunOk S b its S' := by
  intro its
  induction its with
  | nil => intro S S' b h; cases h; exact .nil _ _
  | cons p its ih =>
    intro S S' b h
    obtain ⟨k, t⟩ := p
    simp only [runC] at h
    obtain ⟨⟨S1, b1⟩, h1, h2⟩ := Option.bind_eq_some_iff.mp h
    exact .cons _ _ _ _ _ _ _ _ (stepC_ok h1) (ih h2)
noncomputable def endC (S : FS) : Bool := fitC S && (endRowF S).rows.all (fun r => decide (r.length ≤ 100000)) && decide ((((endRowF S).rows.map fun r => r ++ Str.ofString "\n").map (·.length)).sum + ((endRowF S).rows.map fun r => r ++ Str.ofString "\n").length * (Str.ofString "").length ≤ 16777216) && decide ((endRowF S).rows.length ≤ 1001)
theorem endC_ok {S : FS} (h : endC S = true) : EndOk S := by
  simp only [endC, Bool.and_eq_true, decide_eq_true_eq, List.all_eq_true] at h
  obtain ⟨⟨⟨a, b⟩, c⟩, d⟩ := h
  exact ⟨fitC_ok a, b, c, d⟩
noncomputable def recC (l out : List Nat) : Bool :=
  decide (l.length ≤ 16777216) && (match (lexA l.length l).bind (fun its => runC fs0 true its) with
  | none => false
  | some S => endC S && decide (chL (outF S) = out))
theorem recC_ok {l out : List Nat} (h : recC l out = true) : FmtOk (sL l) (sL out) := by
  unfold recC at h
  simp only [Bool.and_eq_true, decide_eq_true_eq] at h
  obtain ⟨h0, h⟩ := h
  cases hr : (lexA l.length l).bind (fun its => runC fs0 true its) with
  | none => rw [hr] at h; cases h
  | some S =>
    rw [hr] at h
    simp only [Bool.and_eq_true, decide_eq_true_eq] at h
    obtain ⟨its, h1, h2⟩ := Option.bind_eq_some_iff.mp hr
    refine ⟨its, S, by rw [sL_len]; exact h0, ?_, runC_ok its h2, endC_ok h.1, str_ext h.2⟩
    rw [sL_len]
    exact lex_A l _ 0 its (Int.le_refl _) h1
abbrev srcR (bs rm : Str) : Str := Str.ofString "MODULE M; TYPE T = RECORD" ++ bs ++ Str.ofString "\n" ++ rm ++ Str.ofString " x: INTEGER; y: CHAR END; END M."
abbrev dueL (bs rm : Str) : List Str := [Str.ofString "MODULE M;", Str.ofString "  TYPE", Str.ofString "    T = RECORD" ++ bs, Str.ofString "      " ++ rm, Str.ofString "      x: INTEGER;", Str.ofString "      y: CHAR", Str.ofString "    END;", Str.ofString "END M."]
abbrev dueR (bs rm : Str) : Str := Txt.join (Str.ofString "\n") (dueL bs rm) ++ Str.ofString "\n"
theorem rec_one {bs rm : Str} (h : recC (chL (srcR bs rm)) (chL (dueR bs rm)) = true) : FmtOk (srcR bs rm) (dueR bs rm) := by
  have e : ∀ s : Str, sL (chL s) = s := fun s => by cases s; rfl
  have h2 := recC_ok h
  rw [e, e] at h2
  exact h2
noncomputable def BASES : List Str := [Str.ofString "", Str.ofString " (Base)"]
noncomputable def REMS : List Str := [Str.ofString "(* r *)", Str.ofString "(**)", Str.ofString "(* a; b: c *)"]
theorem ks_canLay : ∀ ns : List Str, (∀ r ∈ ns, PyData.strOk r = true) → PyData.canLayAll0 (ns.map PyData.str) = true
  | [], _ => rfl
  | a :: r, h => by simp [PyData.canLayAll0, PyData.canLay0, h a (List.mem_cons_self ..), ks_canLay r (fun x hx => h x (List.mem_cons_of_mem _ hx))]
theorem ks_depth : ∀ ns : List Str, PyData.depthAll (ns.map PyData.str) = 0
  | [] => rfl
  | _ :: r => by simp [PyData.depthAll, PyData.depth, ks_depth r]
theorem ks_shaped (ns : List Str) (h : ∀ r ∈ ns, PyData.strOk r = true) : SeqAt.shaped (.list (ns.map PyData.str)) = true := by
  simp [SeqAt.shaped, PyData.canLay0, PyData.depth, ks_canLay ns h, ks_depth]
theorem ks_sameAll : ∀ ns : List Str, PySem.Spec.sameAll (ns.map PyData.str) (ns.map PyData.str) = true
  | [] => by simp [PySem.Spec.sameAll]
  | a :: r => by
    simp only [List.map_cons, PySem.Spec.sameAll, PySem.Spec.same, ks_sameAll r]
    simp
section
variable {prog : Program} {w : World} {A : Around} {E : Value → Shared → Prop} {s : Shared} {a b : Addr} {xs ys : List Value} {ns : List Str} {Q : Value → Shared → Prop}
theorem ks_ne (ha : s.heap.IsList a xs.toArray) (hb : s.heap.IsList b ys.toArray) (hi : StrsAre xs ns) (hj : StrsAre ys ns) (hok : ∀ r ∈ ns, PyData.strOk r = true) (hu : A.units + 64 < cLine) (h : Q (.bool false) s) :
    wpAny (model prog w) A (compareOp .NotEq (.ref a) (.ref b)) Q E s :=
  ne_dataH_same (reads_newData ha hi.carried) (reads_newData hb hj.carried) (ks_shaped _ hok) (ks_shaped _ hok) hu (SeqAt.noMix_of_shape (.list .str) rfl _ _ (list_map_has fun _ => rfl) (list_map_has fun _ => rfl))
    (by rw [show PySem.Spec.same (.list (ns.map PyData.str)) (.list (ns.map PyData.str)) = true from by simp only [PySem.Spec.same]; exact ks_sameAll ns]; exact h)
end
theorem tw_ok : ∀ t : Fin 12, PyData.strOk (sL (twL t)) = true := by decide +kernel
theorem fmt_use (w : World) (src out : Str) (ts : Tok) (news : Led) (h : FmtOk src out) :
    SpecC w 10 366 [.str src ts] news (fun v n' => (∃ t, v = .str out t) ∧ n' = news) := by
  obtain ⟨its, S, h1, h2, h3, h4, rfl⟩ := h
  exact formatted_spec w src ts news its S h1 h2 h3 h4.fit h4.e1 h4.e2 h4.e3
theorem sol_use (w : World) (src : Str) (R : List Str) (ts : Tok) (news : Led) (h : SolOk src R) :
    SpecC w 10 378 [.str src ts] news (fun v n' => ∃ (l : Addr) (vs : List Value) (n : Nat), v = .ref l ∧ n' = (l, listOf vs.toArray n) :: news ∧ StrsAre vs R) := by
  obtain ⟨its, h1, h2, rfl⟩ := h
  exact solid_spec w src ts news its h1 h2
theorem rec_law (bs rm : Str) (hb : bs ∈ BASES) (hr : rm ∈ REMS) : FmtOk (srcR bs rm) (dueR bs rm) := by
  have h : ∀ bs ∈ BASES, ∀ rm ∈ REMS, recC (chL (srcR bs rm)) (chL (dueR bs rm)) = true := by decide +kernel
  exact rec_one (h bs hb rm hr)
theorem getD_mem {l : List Str} {i : Nat} (h : i < l.length) : l.getD i Str.empty ∈ l := by
  rw [List.getD_eq_getElem?_getD, List.getElem?_eq_getElem h]
  exact List.getElem_mem h
theorem base_len : ∀ bs ∈ BASES, bs.length ≤ 7 := by decide +kernel
theorem rem_len : ∀ rm ∈ REMS, rm.length ≤ 13 := by decide +kernel
noncomputable def WORDS : List Str := [Str.ofString "1.", Str.ofString "2.5", Str.ofString "x", Str.ofString "7", Str.ofString ".", Str.ofString "..", Str.ofString ";", Str.ofString "(", Str.ofString "0FH", Str.ofString "3.E2", Str.ofString "3.5E-2", Str.ofString ")"]
noncomputable def SECS : List Str := [Str.ofString ".", Str.ofString ".."]
noncomputable def tokAt (j : Int) : Fin 12 := ⟨j.toNat % 12, Nat.mod_lt _ (by decide)⟩
theorem words_at {j : Int} (h0 : 0 ≤ j) (h1 : j < 12) : WORDS.getD j.toNat Str.empty = sL (twL (tokAt j)) := by
  have h : ∀ i : Fin 12, WORDS.getD i.val Str.empty = sL (twL i) := by decide +kernel
  have e : (tokAt j).val = j.toNat := Nat.mod_eq_of_lt (by omega)
  rw [← h, e]
theorem secs_at {j : Int} (h0 : 0 ≤ j) (h1 : j < 2) : ∃ s : Fin 12, (s = 4 ∨ s = 5) ∧ SECS.getD j.toNat Str.empty = sL (twL s) := by
  have : j = 0 ∨ j = 1 := by omega
  rcases this with rfl | rfl
  · exact ⟨4, .inl rfl, by decide +kernel⟩
  · exact ⟨5, .inr rfl, by decide +kernel⟩
section
local macro_rules | `(tactic| k_qdec) => `(tactic| decide +kernel)
theorem lnsLaw0 : True := by
  w_top off
  k_with_none
  k_with "mine pure" => ((case k1 => k_asm); (case k2 => k_asm); (case k3 => k_asm); (case k4 => k_asm); (case k5 => k_asm); (case k6 => first | exact rfl | assumption); (case k7 => ktr_room); (case k8 => ktr_units); intro t9z h9z tk9z F9z N9z; (try dsimp only); (try k_fold))
  k_with "execs cons" => (k_here; (with_reducible show wpAny _ _ _ _ _ (Shared.mk _ _ _ (_ + _) _)); refine gen_tok ?_; intro tk9z)
  k_with "execs nil" => (k_here; (with_reducible show wpAny _ _ _ _ _ (Shared.mk _ _ _ (_ + _) _)); refine gen_tok ?_; intro tk9z)
  k_with "WiPost" => (dsimp only [WiPost])
  k_with "mine bool" => (simp only [isLetter, isHex, leS, *, decide_true, decide_false, Bool.not_true, Bool.not_false, Bool.and_true, Bool.true_and, Bool.and_false, Bool.false_and, Bool.or_true, Bool.true_or, Bool.or_false, Bool.false_or, not_true_eq_false, not_false_eq_true])
  k_with "WgPost" => (dsimp only [WgPost])
  k_with "mine steps" => repeat' (first | (k_unfold; (try dsimp only)) | (k_end; wrow_close) | ((fail_if_success (with_reducible show wpAny _ _ (exec (Stmt.While _ _ _ _) _) _ _ _)); (fail_if_success (with_reducible show wpAny _ _ (exec (Stmt.For _ _ _ _ _) _) _ _ _)); walk1) | (dsimp only; walk1) | (leave1; walk_say "STEP leave1"; try dsimp only) | fail "no step")
  k_with "call ref" => (k_here; (with_reducible show wpAny _ _ (call (Value.ref 67) _) _ _ _); k_dflt ((refine' SpecP.use (is_digit_spec _ _ _) ?k1 ?k2 ?k3 ?k4 ?k5 ?k6 ?k7 ?k8 ?_); k_extra "mine pure"))
  k_with "call ref" => (k_here; (with_reducible show wpAny _ _ (call (Value.ref 60) _) _ _ _); k_dflt ((refine' SpecP.use (is_letter_spec _ _ _) ?k1 ?k2 ?k3 ?k4 ?k5 ?k6 ?k7 ?k8 ?_); k_extra "mine pure"))
  k_with "call ref" => (k_here; (with_reducible show wpAny _ _ (call (Value.ref 74) _) _ _ _); k_dflt ((refine' SpecP.use (is_hex_spec _ _ _) ?k1 ?k2 ?k3 ?k4 ?k5 ?k6 ?k7 ?k8 ?_); k_extra "mine pure"))
  k_with "call ref" => (k_here; (with_reducible show wpAny _ _ (call (Value.ref 123) _) _ _ _); k_dflt ((refine' SpecP.use (word_end_spec _ _ _ _ _ (by with_reducible assumption) (by first | with_reducible assumption | omega)) ?k1 ?k2 ?k3 ?k4 ?k5 ?k6 ?k7 ?k8 ?_); k_extra "mine pure"))
  k_with "call ref" => (k_here; (with_reducible show wpAny _ _ (call (Value.ref 130) _) _ _ _); k_dflt ((refine' SpecP.use (digits_end_spec _ _ _ _ _ (by with_reducible assumption) (by first | with_reducible assumption | omega)) ?k1 ?k2 ?k3 ?k4 ?k5 ?k6 ?k7 ?k8 ?_); k_extra "mine pure"))
  k_with "call ref" => (k_here; (with_reducible show wpAny _ _ (call (Value.ref 102) _) _ _ _); k_dflt ((refine' SpecP.use (gap_end_spec _ _ _ _ _ (by with_reducible assumption) (by first | with_reducible assumption | omega)) ?k1 ?k2 ?k3 ?k4 ?k5 ?k6 ?k7 ?k8 ?_); k_extra "mine pure"))
  k_with "call ref" => (k_here; (with_reducible show wpAny _ _ (call (Value.ref 137) _) _ _ _); k_dflt ((refine' SpecP.use (number_end_spec _ _ _ _ _ (by with_reducible assumption) (by first | with_reducible assumption | omega)) ?k1 ?k2 ?k3 ?k4 ?k5 ?k6 ?k7 ?k8 ?_); k_extra "mine pure"))
  k_with "call ref" => (k_here; (with_reducible show wpAny _ _ (call (Value.ref 144) _) _ _ _); k_dflt ((refine' SpecP.use (sign_end_spec _ _ _ _ _ (by with_reducible assumption) (by first | with_reducible assumption | omega) (by first | with_reducible assumption | omega)) ?k1 ?k2 ?k3 ?k4 ?k5 ?k6 ?k7 ?k8 ?_); k_extra "mine pure"))
  k_with "call ref" => (k_here; (with_reducible show wpAny _ _ (call (Value.ref 109) _) _ _ _); k_dflt ((refine' SpecP.use (remark_end_spec _ _ _ _ _ (by with_reducible assumption) (by first | with_reducible assumption | omega)) ?k1 ?k2 ?k3 ?k4 ?k5 ?k6 ?k7 ?k8 ?_); k_extra "mine pure"))
  k_with "mine s1" => ((case k1 => k_asm); (case k2 => k_asm); (case k3 => k_asm); (case k4 => k_asm))
  k_with "mine s2" => ((case k5 => k_asm); (case k6 => first | exact rfl | assumption); (case k7 => ktr_room); (case k8 => ktr_units); intro v9z n9z h9z tk9z F9z N9z R9z; obtain ⟨e9z, e8z⟩ := R9z; subst e9z; (replace e8z := e8z.symm); subst e8z; (try dsimp only); (try k_fold))
  k_with "callWith" => (with_reducible refine callWith_method1 ?_)
  k_with "call builtin:len" => (k_here; (with_reducible show wpAny _ _ (call (Value.builtin "len") [Value.ref _]) _ _ _); k_dflt (refine' len_list ?k1 ?k2 ?_; (case k1 => exact News.isList (by k_asm) (by k_mem)); (case k2 => ((try simp only [List.size_toArray, List.length_append, List.length_cons, List.length_nil]); omega)); k_whole))
  k_with "call builtin:list.append" => (k_here; (with_reducible show wpAny _ _ (call (Value.builtin _) [Value.ref _, _]) _ _ _); k_dflt (refine' append_K ?k1 ?k2 ?k3 ?_ ?z; (case k1 => k_asm); (case k2 => k_asm); (case k3 => k_upd); (case z => ((try simp only [List.size_toArray, List.length_append, List.length_cons, List.length_nil]); rw [sizeLine_eq]; omega)); k_whole); intro h9z F9z N9z; (try k_sweep))
  k_with "binaryOp Add str str" => (k_here; (with_reducible show wpAny _ _ (binaryOp Operator.Add (Value.str _ _) (Value.str _ _)) _ _ _); refine' KOpn.add ?z ?_; (case z => ((have e1 := lenSp); (have e2 := lenEm); omega)); intro t9z k9z l9z)
  k_with "call builtin:str.join" => (k_here; (with_reducible show wpAny _ _ (call (Value.builtin _) [Value.str _ _, Value.ref _]) _ _ _); k_dflt (refine' join_list (News.isList (by k_asm) (by k_mem)) ?k2 ?k3 ?_; (case k2 => assumption); (case k3 => assumption); intro tj9z kj9z))
  trivial
open LCg in
theorem cmp_gen {prog : Program} {w : World} {A : Around} {h₀ : Heap} {L : Addr} {m : Str → Option Value} {env : Env} {elt : Expr} {x : Str} {scope : Scope} {cl : List (Str × Addr)} {s : Shared} {S : Led → Prop} {Fin : List Value → Led → Prop} {news : Led}
    {n : Nat} {a : Int} (g : Nat → Str) (hS : S news)
    (turn : ∀ k v I oI C oC D m₂ ys h tk (E' : Value → Shared → Prop), k < n → (∃ t, v = .int (a + (k : Int)) t) → LCg.NsObj oC m₂ → m₂ x = some v → Fr h₀ L h m → News h₀ L h ((I, oI) :: (C, oC) :: (D, LCg.lst ys) :: news) → LCg.Off3 I C D news → ((@Ne Nat I C) ∧ (@Ne Nat I D) ∧ (@Ne Nat C D)) →
      wpAny (model prog w) A (eval elt (compEnvC scope cl C env)) (fun y s'' => ∃ h'' tk'' t, s'' = { s with heap := h'', toks := tk'' } ∧ Fr h₀ L h'' m ∧ News h₀ L h'' ((I, oI) :: (C, oC) :: (D, LCg.lst ys) :: news) ∧ y = .str (g k) t) E' { s with heap := h, toks := tk })
    (fin : ∀ ys, StrsAre ys ((List.range n).map g) → Fin ys news) : LCg.CompRest prog w A h₀ L m env elt x scope cl s S (fun i v => ∃ t, v = .int (a + (i : Int)) t) Fin n 0 [] news := by
  have key : ∀ (j i : Nat) (ys : List Value), i + j = n → StrsAre ys ((List.range i).map g) → LCg.CompRest prog w A h₀ L m env elt x scope cl s S (fun i v => ∃ t, v = .int (a + (i : Int)) t) Fin j i ys news := by
    intro j
    induction j with
    | zero =>
      intro i ys hi hy
      have e : i = n := by omega
      subst e
      exact LCg.CompRest.zero (fin ys hy)
    | succ j ih =>
      intro i ys hi hy
      refine LCg.CompRest.succ ?_
      intro v I oI C oC D m₂ h tk E' hv hC hx F N off ne
      refine wpAny_mono (turn i v I oI C oC D m₂ ys h tk E' (by omega) hv hC hx F N off ne) (fun y s' hq => ?_) fun _ _ e => e
      obtain ⟨h'', tk'', t, rfl, F'', N'', rfl⟩ := hq
      refine ⟨h'', tk'', news, rfl, F'', N'', off, hS, ih (i + 1) _ (by omega) ?_⟩
      rw [List.range_succ, List.map_append]
      exact kct_snoc hy
  exact key _ 0 [] (by omega) .nil
theorem join_size (ts : List (Fin 12)) (h : ts.length ≤ 12) : ((ts.map fun t => sL (twL t)).map (·.length)).sum + (ts.map fun t => sL (twL t)).length * (Str.ofString " ").length ≤ 16777216 := by
  have h1 : ∀ l : List (Fin 12), ((l.map fun t => sL (twL t)).map (·.length)).sum ≤ 6 * l.length := by
    intro l
    induction l with
    | nil => simp
    | cons a l ih =>
      simp only [List.map_cons, List.sum_cons, List.length_cons]
      have := twL_len a
      have e : (sL (twL a)).length = (twL a).length := sL_len _
      omega
  have h2 := h1 ts
  rw [List.length_map, lenSp]
  omega
theorem words_map (ns : List Int) (n : Nat) : ((List.range n).map fun (k : Nat) => WORDS.getD (partI ns (1 + (0 + (k : Int))) 12).toNat Str.empty) = ((List.range n).map fun (k : Nat) => tokAt (partI ns (1 + (0 + (k : Int))) 12)).map fun t => sL (twL t) := by
  rw [List.map_map]
  exact List.map_congr_left fun k _ => words_at (partI_lo _ _ (by decide)) (partI_hi _ _ (by decide))
theorem lnsLaw1 : True := by
  k_with "call ref" => (k_here; (with_reducible show wpAny _ _ (call (Value.ref 373) _) _ _ _); k_dflt ((refine' SpecL.use (lpart_spec _ _ _ _ (by assumption) ?hlen _ _ _ _ ?h0 ?hw ?h9z) ?hls ?k1 ?k2 ?k3 ?k4 ?k5 ?k6 ?k7 ?k8 ?_); (case hls => is_list); (case k1 => k_asm); (case k2 => k_asm); (case k3 => k_asm); (case k4 => k_asm); (case k5 => k_asm); (case k6 => first | exact rfl | assumption); (case k7 => ktr_room); (case k8 => ktr_units); (case hlen => omega); (case h0 => omega); (case hw => omega); (case h9z => omega); intro tp9z h9z tk9z F9z N9z; (try dsimp only); (try k_fold)))
  k_with "subscriptTail" => (k_here; (with_reducible show wpAny _ _ (subscriptTail _ _ (Value.ref _) (Value.int _ _)) _ _ _); k_dflt (refine' KTb.item_list (ws := WORDS) ?z1 ?z2 ?z3 ?z4 ?z5 ?_; (case z1 => is_list); (case z2 => (unfold WORDS; repeat constructor)); (case z3 => exact partI_lo _ _ (by decide)); (case z4 => exact partI_hi _ _ (by decide)); (case z5 => exact Int.lt_trans (partI_hi _ _ (by decide)) (by decide)); intro ti9z _))
  k_with "call ref" => (k_here; (with_reducible show wpAny _ _ (call (Value.ref 366) _) _ _ _); k_dflt ((refine' SpecC.use (fmt_use _ _ _ _ _ (by assumption)) ?k1 ?k2 ?k3 ?k4 ?k5 ?k6 ?k7 ?k8 ?_); (case k1 => k_asm); (case k2 => k_asm); (case k3 => k_asm); (case k4 => k_asm); (case k5 => k_asm); (case k6 => first | exact rfl | assumption); (case k7 => ktr_room); (case k8 => ktr_units); intro v9z n9z h9z tk9z F9z N9z R9z; obtain ⟨⟨t9z, e9z⟩, e8z⟩ := R9z; subst e9z; (replace e8z := e8z.symm); subst e8z; (try dsimp only); (try k_fold)))
  k_with "call ref" => (k_here; (with_reducible show wpAny _ _ (call (Value.ref 378) _) _ _ _); k_dflt ((refine' SpecC.use (sol_use _ _ _ _ _ (by assumption)) ?k1 ?k2 ?k3 ?k4 ?k5 ?k6 ?k7 ?k8 ?_); (case k1 => k_asm); (case k2 => k_asm); (case k3 => k_asm); (case k4 => k_asm); (case k5 => k_asm); (case k6 => first | exact rfl | assumption); (case k7 => ktr_room); (case k8 => ktr_units); intro v9z n9z h9z tk9z F9z N9z R9z; obtain ⟨l9z, vs9z, nn9z, e9z, e8z, hS9z⟩ := R9z; subst e9z e8z; (try dsimp only); (try k_fold)))
  k_with "compareOp NotEq ref ref" => (k_here; (with_reducible show wpAny _ _ (compareOp CmpOp.NotEq (Value.ref _) (Value.ref _)) _ _ _); k_dflt (refine' ks_ne ?z1 ?z2 ?z3 ?z4 ?z5 ?z6 ?_; (case z1 => is_list); (case z2 => is_list); (case z3 => with_reducible assumption); (case z4 => first | with_reducible assumption | exact StrsAre.cons _ _ (StrsAre.cons _ _ StrsAre.nil)); (case z5 => with_reducible assumption); (case z6 => ke_room)))
  trivial
section
variable {M : Model} {A : Around} {E : Value → Shared → Prop} {Q : Flow → Shared → Prop} {s : Shared} {st : Stmt} {env : Env} {h₀ : Heap} {L : Addr} {m : Str → Option Value} {news : Led}
noncomputable def KQ (h₀ : Heap) (L : Addr) (m : Str → Option Value) (news : Led) (x K : Str) (s : Shared) (f : Flow) (s' : Shared) : Prop :=
  f = .next ∧ ∃ K' t h tk, K' = K ∧ s' = { s with heap := h, toks := tk } ∧ Fr h₀ L h (fun y => if y = x then some (.str K' t) else m y) ∧ News h₀ L h news
theorem cut_str (x K : Str) (F : Fr h₀ L s.heap m) (N : News h₀ L s.heap news) (h1 : wpAny M A (exec st env) (KQ h₀ L m news x K s) E s)
    (h2 : ∀ t h tk, Fr h₀ L h (fun y => if y = x then some (.str K t) else m y) → News h₀ L h news → Q .next { s with heap := h, toks := tk }) : wpAny M A (exec st env) Q E s := by
  refine wpAny_mono h1 (fun f s' hq => ?_) fun _ _ e => e
  obtain ⟨rfl, K', t, h, tk, rfl, rfl, F', N'⟩ := hq
  exact h2 t h tk F' N'
theorem cut_str2 {K0 : Str} {t0 : Tok} (x K : Str) (_F : Fr h₀ L s.heap (fun y => if y = x then some (.str K0 t0) else m y)) (_N : News h₀ L s.heap news) (h1 : wpAny M A (exec st env) (KQ h₀ L m news x K s) E s)
    (h2 : ∀ t h tk, Fr h₀ L h (fun y => if y = x then some (.str K t) else m y) → News h₀ L h news → Q .next { s with heap := h, toks := tk }) : wpAny M A (exec st env) Q E s := by
  refine wpAny_mono h1 (fun f s' hq => ?_) fun _ _ e => e
  obtain ⟨rfl, K', t, h, tk, rfl, rfl, F', N'⟩ := hq
  exact h2 t h tk F' N'
noncomputable def KS (h₀ : Heap) (L : Addr) (m : Str → Option Value) (news : Led) (s : Shared) (f : Flow) (s' : Shared) : Prop :=
  f = .next ∧ ∃ h tk, s' = { s with heap := h, toks := tk } ∧ Fr h₀ L h m ∧ News h₀ L h news
theorem cut_same (F : Fr h₀ L s.heap m) (N : News h₀ L s.heap news) (h1 : wpAny M A (exec st env) (KS h₀ L m news s) E s)
    (h2 : ∀ h tk, Fr h₀ L h m → News h₀ L h news → Q .next { s with heap := h, toks := tk }) : wpAny M A (exec st env) Q E s := by
  refine wpAny_mono h1 (fun f s' hq => ?_) fun _ _ e => e
  obtain ⟨rfl, h, tk, rfl, F', N'⟩ := hq
  exact h2 h tk F' N'
end
theorem lnsLaw2 : True := by
  k_with "subscriptTail" => (k_here; (with_reducible show wpAny _ _ (subscriptTail _ _ (Value.ref _) (Value.int _ _)) _ _ _); k_dflt (refine' KTb.item_list (ws := SECS) ?z1 ?z2 ?z3 ?z4 ?z5 ?_; (case z1 => is_list); (case z2 => (unfold SECS; repeat constructor)); (case z3 => exact partI_lo _ _ (by decide)); (case z4 => exact partI_hi _ _ (by decide)); (case z5 => exact Int.lt_trans (partI_hi _ _ (by decide)) (by decide)); intro ti9z _))
  k_with "subscriptTail" => (k_here; (with_reducible show wpAny _ _ (subscriptTail _ _ (Value.ref _) (Value.int _ _)) _ _ _); k_dflt (refine' KTb.item_list (ws := BASES) ?z1 ?z2 ?z3 ?z4 ?z5 ?_; (case z1 => is_list); (case z2 => (unfold BASES; repeat constructor)); (case z3 => exact partI_lo _ _ (by decide)); (case z4 => exact partI_hi _ _ (by decide)); (case z5 => exact Int.lt_trans (partI_hi _ _ (by decide)) (by decide)); intro ti9z _))
  k_with "subscriptTail" => (k_here; (with_reducible show wpAny _ _ (subscriptTail _ _ (Value.ref _) (Value.int _ _)) _ _ _); k_dflt (refine' KTb.item_list (ws := REMS) ?z1 ?z2 ?z3 ?z4 ?z5 ?_; (case z1 => is_list); (case z2 => (unfold REMS; repeat constructor)); (case z3 => exact partI_lo _ _ (by decide)); (case z4 => exact partI_hi _ _ (by decide)); (case z5 => exact Int.lt_trans (partI_hi _ _ (by decide)) (by decide)); intro ti9z _))
  k_with "binaryOp Add str str" => (k_here; (with_reducible show wpAny _ _ (binaryOp Operator.Add (Value.str _ _) (Value.str _ _)) _ _ _); refine' KOpn.add ?z ?_; (case z => (first | omega | (simp only [len_app]; omega))); intro t9z k9z l9z)
  k_with "call builtin:str.join" => (k_here; (with_reducible show wpAny _ _ (call (Value.builtin _) [Value.str _ _, Value.ref _]) _ _ _); k_dflt (refine' join_list (News.isList (by k_asm) (by k_mem)) ?k2 ?k3 ?_; (case k2 => first | assumption | (repeat constructor)); (case k3 => assumption); intro tj9z kj9z))
  trivial
theorem fr_twice {h₀ h : Heap} {L : Addr} {m : Str → Option Value} {x : Str} {u v : Option Value} (F : Fr h₀ L h (fun y => if y = x then v else (fun y => if y = x then u else m y) y)) : Fr h₀ L h (fun y => if y = x then v else m y) := map_twice ▸ F
theorem len_app (a b : Str) : (a ++ b).length = a.length + b.length := by rw [ch_len, ch_app, List.length_append, ← ch_len, ← ch_len]
theorem lit_lens : (Str.ofString "MODULE M; TYPE T = RECORD").length = 25 ∧ (Str.ofString "\n").length = 1 ∧ (Str.ofString " x: INTEGER; y: CHAR END; END M.").length = 32 ∧ (Str.ofString "    T = RECORD").length = 14 ∧ (Str.ofString "      ").length = 6 := by decide +kernel
theorem due_size (bs rm : Str) (hb : bs.length ≤ 7) (hr : rm.length ≤ 13) : ((dueL bs rm).map (·.length)).sum + (dueL bs rm).length * (Str.ofString "\n").length ≤ 16777216 := by
  have h : (Str.ofString "MODULE M;").length ≤ 100 ∧ (Str.ofString "  TYPE").length ≤ 100 ∧ (Str.ofString "      x: INTEGER;").length ≤ 100 ∧ (Str.ofString "      y: CHAR").length ≤ 100 ∧ (Str.ofString "    END;").length ≤ 100 ∧ (Str.ofString "END M.").length ≤ 100 := by decide +kernel
  obtain ⟨h1, h2, h3, h4, h5, h6⟩ := h
  obtain ⟨_, g2, _, g4, g5⟩ := lit_lens
  simp only [dueL, List.map_cons, List.map_nil, List.sum_cons, List.sum_nil, List.length_cons, List.length_nil, len_app]
  omega
theorem due_len (bs rm : Str) (hb : bs ∈ BASES) (hr : rm ∈ REMS) : (Txt.join (Str.ofString "\n") (dueL bs rm)).length ≤ 1000 := by
  have h : ∀ bs ∈ BASES, ∀ rm ∈ REMS, (Txt.join (Str.ofString "\n") (dueL bs rm)).length ≤ 1000 := by decide +kernel
  exact h bs hb rm hr
theorem kd_x : ∀ t : Fin 12, (sL (twL t) == Str.ofString "x") = true → Str.ofString "name" = kdT t := by decide +kernel
theorem kd_nx : ∀ t : Fin 12, (sL (twL t) == Str.ofString "x") = false → (if (Builtin.Str.occurrences (Str.ofString "01237") (Txt.item (sL (twL t)) 0) 0 (Str.ofString "01237").length 1).isEmpty = true then Str.ofString "sign" else Str.ofString "number") = kdT t := by decide +kernel
theorem wj_use (w : World) {bix bdx iix idx : Addr} {k0 k1 k2 tk tt tp j0 j1 j2 uk ut up : Tok} {bk bt ik it : Str} {bp ip : Int} (news : Led) (hb1 : (bix, instObj 91 bdx) ∈ news) (hb2 : (bdx, itmD w ⟨bix, bdx, k0, k1, k2, tk, tt, tp, bk, bt, bp⟩) ∈ news)
    (hi1 : (iix, instObj 91 idx) ∈ news) (hi2 : (idx, itmD w ⟨iix, idx, j0, j1, j2, uk, ut, up, ik, it, ip⟩) ∈ news) (hl1 : 1 ≤ bt.length) (hl2 : bt.length ≤ 1000) (hl3 : 1 ≤ it.length) (hl4 : it.length ≤ 1000) (hst : (Txt.item it 0 == Str.ofString "*") = false) :
    SpecC w 1 200 [.ref bix, .ref iix] news (fun v n' => v = .bool (wjF bk bt it) ∧ n' = news) :=
  would_join_spec w ⟨bix, bdx, k0, k1, k2, tk, tt, tp, bk, bt, bp⟩ ⟨iix, idx, j0, j1, j2, uk, ut, up, ik, it, ip⟩ news hb1 hb2 hi1 hi2 hl1 hl2 hl3 hl4 hst
theorem lnsLaw3 : True := by
  k_with "call ref" => (k_here; (with_reducible show wpAny _ _ (call (Value.ref 200) _) _ _ _); k_dflt ((refine' SpecC.use (wj_use _ _ ?m1 ?m2 ?m3 ?m4 ?x1 ?x2 ?x3 ?x4 ?x5) ?k1 ?k2 ?k3 ?k4 ?k5 ?k6 ?k7 ?k8 ?_); k_extra "mine s1"; (case m1 => k_mem); (case m2 => k_mem); (case m3 => k_mem); (case m4 => k_mem); (case x1 => with_reducible assumption); (case x2 => with_reducible assumption); (case x3 => with_reducible assumption); (case x4 => with_reducible assumption); (case x5 => with_reducible assumption); k_extra "mine s2"))
  k_with "call ref" => (k_here; (with_reducible show wpAny _ _ (call (Value.ref 91) _) _ _ _); k_dflt ((refine' SpecC.use (mk_item_spec _ _ _ _ _ _ _ _) ?k1 ?k2 ?k3 ?k4 ?k5 ?k6 ?k7 ?k8 ?_); (case k1 => k_asm); (case k2 => k_asm); (case k3 => k_asm); (case k4 => k_asm); (case k5 => k_asm); (case k6 => first | exact rfl | assumption); (case k7 => ktr_room); (case k8 => ktr_units); intro v9z n9z h9z tk9z F9z N9z R9z; obtain ⟨⟨ix9z, dx9z, k09, k19, k29, tk9z, tt9z, tp9z, kd9z, tx9z, pl9z⟩, e9z, e8z, e7z, e6z, l9z, l8z⟩ := R9z; dsimp only at e9z e8z e7z e6z l9z l8z; subst e9z e8z; (replace e7z := e7z.symm); (replace e6z := e6z.symm); subst e7z e6z; (try dsimp only [List.cons_append, List.nil_append] at N9z); (try dsimp only); (try k_fold)))
  trivial
theorem law_holds : PySem.Challenge.rw_pq0761_01.Holds := hd (by
  k_go0
  all_goals try k_fold
  (repeat' (first | (k_unfold; (try dsimp only)) | (k_end; wrow_close) | ((fail_if_success (with_reducible show wpAny _ _ (exec (Stmt.Assign [Expr.Name (Str.ofString "shown") _] _ _) _) _ _ _)); walk1) | (dsimp only; walk1) | (leave1; walk_say "STEP leave1"; try dsimp only) | fail "no step"))
  rename List Int => ns
  rename IntsAre _ ns => hI
  rename_i t1 u1 v1 hrng F5 N5 keep5
  have hb0 := partI_lo ns 0 (ways := 13) (by decide)
  have hb1 := partI_hi ns 0 (ways := 13) (by decide)
  refine LCg.CompSrc.range (n := (partI ns 0 13).toNat) (by rfl) F5 N5 hrng (small_one (by decide) (by decide) (by omega) (by omega)) (by rw [rangeSize_one]; omega) (by rw [sizeLine_eq]; omega) (fun g9 => cmp_gen (fun k => WORDS.getD (partI ns (1 + (0 + (k : Int))) 12).toNat Str.empty) trivial ?_ ?_)
  · rintro k v I oI C oC D m₂ ys h tk E' hk ⟨t, rfl⟩ hC hx F N off ne
    k_steps
    all_goals first | rfl | k_asm
  · intro ys hys
    rw [words_map] at hys
    have hlt : ((List.range (partI ns 0 13).toNat).map fun (k : Nat) => tokAt (partI ns (1 + (0 + (k : Int))) 12)).length ≤ 12 := by
      rw [List.length_map, List.length_range]; omega
    generalize ((List.range (partI ns 0 13).toNat).map fun (k : Nat) => tokAt (partI ns (1 + (0 + (k : Int))) 12)) = ts at hys hlt
    obtain ⟨out, hf1, hs1, hf2, hol⟩ := row_law ts hlt
    have hjs := join_size ts hlt
    have hok : ∀ r ∈ (ts.map fun t => sL (twL t)), PyData.strOk r = true := by
      intro r hr
      obtain ⟨t, _, rfl⟩ := List.mem_map.mp hr
      exact tw_ok t
    have hoo : (out != out) = false := by simp
    generalize (ts.map fun t => sL (twL t)) = R at hys hf1 hs1 hjs hok
    clear keep5
    (repeat' (first | (k_unfold; (try dsimp only)) | (k_end; wrow_close) | ((fail_if_success (with_reducible show wpAny _ _ (exec (Stmt.Assign [Expr.Name (Str.ofString "kind") _] _ _) _) _ _ _)); walk1) | (dsimp only; walk1) | (leave1; walk_say "STEP leave1"; try dsimp only) | fail "no step"))
    have hw1 := words_at (partI_lo ns 1 (ways := 12) (by decide)) (partI_hi ns 1 (by decide))
    obtain ⟨s2, hs2, hw2⟩ := secs_at (partI_lo ns 2 (ways := 2) (by decide)) (partI_hi ns 2 (by decide))
    generalize hfw : WORDS.getD (partI ns 1 12).toNat Str.empty = fw at *
    generalize hsw : SECS.getD (partI ns 2 2).toNat Str.empty = sw at *
    generalize tokAt (partI ns 1 12) = t0 at hw1
    have a1 : 1 ≤ fw.length := by rw [hw1]; exact (tok_ok t0).t1
    have a2 : fw.length ≤ 1000 := by rw [hw1]; exact (tok_ok t0).t2
    have a3 : (Txt.item fw 0 == Str.ofString "*") = false := by rw [hw1]; exact (tok_ok t0).t3
    have b1 : 1 ≤ sw.length := by rw [hw2]; exact (tok_ok s2).t1
    have b2 : sw.length ≤ 1000 := by rw [hw2]; exact (tok_ok s2).t2
    have b3 : (Txt.item sw 0 == Str.ofString "*") = false := by rw [hw2]; exact (tok_ok s2).t3
    clear hfw hsw
    with_reducible rename Fr _ _ _ _ => F7
    with_reducible rename News _ _ _ _ => N7
    refine cut_str (Str.ofString "kind") (if (Builtin.Str.occurrences (Str.ofString "01237") (Txt.item fw 0) 0 (Str.ofString "01237").length 1).isEmpty = true then Str.ofString "sign" else Str.ofString "number") F7 N7 ?_ ?_
    · k_steps
      all_goals
        refine' ⟨rfl, _, _, _, _, ?zk, rfl, ?zF, ?zN⟩
        case zF => k_asm
        case zN => k_asm
        case zk => first | exact (if_pos (by with_reducible assumption)).symm | exact (if_neg (Bool.eq_false_iff.mp (by with_reducible assumption))).symm
    intro tK hK tkK FK NK
    clear F7 N7
    have hk2 := kd_nx t0
    rw [← hw1] at hk2
    generalize (if (Builtin.Str.occurrences (Str.ofString "01237") (Txt.item fw 0) 0 (Str.ofString "01237").length 1).isEmpty = true then Str.ofString "sign" else Str.ofString "number") = k1 at FK hk2
    (repeat' (first | (k_unfold; (try dsimp only)) | (k_end; wrow_close) | ((fail_if_success (with_reducible show wpAny _ _ (exec (Stmt.If _ _ _ _) _) _ _ _)); walk1) | (dsimp only; walk1) | (leave1; walk_say "STEP leave1"; try dsimp only) | fail "no step"))
    refine cut_str2 (Str.ofString "kind") (kdT t0) FK NK ?_ ?_
    · k_steps
      all_goals
        refine' ⟨rfl, _, _, _, _, ?zk, rfl, ?zF, ?zN⟩
        case zF => first | k_asm | exact fr_twice (by k_asm)
        case zN => k_asm
        case zk => first | exact kd_x t0 (by rw [← hw1]; assumption) | exact hk2 (by assumption)
    intro tM hM tkM FM NM
    clear FK NK hk2
    have hsol : wjF (kdT t0) fw sw = false → SolOk (fw ++ sw) [fw, sw] := by
      rw [hw1, hw2]
      exact pair_law t0 s2 hs2
    have hok2 : ∀ r ∈ [fw, sw], PyData.strOk r = true := by
      intro r hr
      rcases List.mem_cons.mp hr with rfl | hr
      · rw [hw1]; exact tw_ok t0
      · rw [List.mem_singleton.mp hr, hw2]; exact tw_ok s2
    generalize kdT t0 = kk at FM hsol
    (repeat' (first | (k_unfold; (try dsimp only)) | (k_end; wrow_close) | ((fail_if_success (with_reducible show wpAny _ _ (exec (Stmt.If _ _ _ _) _) _ _ _)); walk1) | (dsimp only; walk1) | (leave1; walk_say "STEP leave1"; try dsimp only) | fail "no step"))
    with_reducible rename Fr _ _ _ _ => F8
    with_reducible rename News _ _ _ _ => N8
    refine cut_same F8 N8 ?_ ?_
    · by_cases hwj : wjF kk fw sw = true
      · k_steps
        exact ⟨rfl, _, _, rfl, by k_asm, by first | k_asm | exact news_tl (by k_asm) | exact news_tl (news_tl (by k_asm))⟩
      · have hwj := Bool.eq_false_iff.mpr hwj
        have hS2 := hsol hwj
        k_steps
        exact ⟨rfl, _, _, rfl, by k_asm, by first | k_asm | exact news_tl (by k_asm) | exact news_tl (news_tl (by k_asm))⟩
    intro hR tkR FR NR
    clear F8 N8 FM NM hsol
    (repeat' (first | (k_unfold; (try dsimp only)) | (k_end; wrow_close) | ((fail_if_success (with_reducible show wpAny _ _ (exec (Stmt.Assign [Expr.Name (Str.ofString "source") _] _ _) _) _ _ _)); walk1) | (dsimp only; walk1) | (leave1; walk_say "STEP leave1"; try dsimp only) | fail "no step"))
    have hbm : BASES.getD (partI ns 3 2).toNat Str.empty ∈ BASES := getD_mem (by have h0 := partI_lo ns 3 (ways := 2) (by decide); have h1 := partI_hi ns 3 (ways := 2) (by decide); show _ < 2; omega)
    have hrm : REMS.getD (partI ns 4 3).toNat Str.empty ∈ REMS := getD_mem (by have h0 := partI_lo ns 4 (ways := 3) (by decide); have h1 := partI_hi ns 4 (ways := 3) (by decide); show _ < 3; omega)
    generalize BASES.getD (partI ns 3 2).toNat Str.empty = bs at *
    generalize REMS.getD (partI ns 4 3).toNat Str.empty = rm at *
    have hrec := rec_law bs rm hbm hrm
    have hbl := base_len bs hbm
    have hrl := rem_len rm hrm
    have hdl := due_len bs rm hbm hrm
    have hds := due_size bs rm hbl hrl
    obtain ⟨g1, g2, g3, g4, g5⟩ := lit_lens
    k_steps)
end
end Mine
set_option maxRecDepth 100000 in
set_option maxHeartbeats 8000000 in
theorem PySem.Challenge.cw_pq0761_01_holds : PySem.Challenge.rw_pq0761_01.Holds := by
  exact Mine.law_holds
