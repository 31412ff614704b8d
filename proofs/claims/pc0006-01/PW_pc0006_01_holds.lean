import PyProof.Rows.All
import Wide.All
import OpenK.AllK
import Wide.FinOn
import PySem.Challenge.RW_pc0006_01
open PySem PySem.W PyProof.Rows
set_option Elab.async false
set_option maxRecDepth 100000
set_option linter.unusedVariables false
set_option rowWalk.seconds 0
namespace Mine
set_option maxHeartbeats 8000000 in
theorem hd_ok : PySem.Challenge.rw_pc0006_01.wellSaid = true := by decide +kernel
set_option synthInstance.maxSize 1 in
set_option maxHeartbeats 8000000 in
open_top hd for PySem.Challenge.rw_pc0006_01.row
end Mine
section
namespace Mine
theorem startT0 : True := by
  w_top off
  trivial
end Mine
open PySem PySem.W PyProof.Rows PySem.Builtin.Str PySem.StrLaws
namespace Mine
noncomputable abbrev tl (x : Str) : List Nat := x.cps.toList
noncomputable abbrev S (l : List Nat) : Str := ⟨l.toArray⟩
theorem tl_S (l : List Nat) : tl (S l) = l := rfl
theorem tl_len (x : Str) : (tl x).length = x.length := by simp [Str.length]
theorem S_tl (x : Str) : S (tl x) = x := rfl
theorem drop_at {x : Str} {c : Nat} (h : c < x.length) : (tl x).drop c = x.cps.getD c 0 :: (tl x).drop (c + 1) := by
  have h' : c < (tl x).length := by rw [tl_len]; exact h
  rw [List.drop_eq_getElem_cons h']
  congr 1
  have hc : c < x.cps.size := h
  simp [Array.getD, hc]
theorem drop_end {x : Str} {c : Nat} (h : x.length ≤ c) : (tl x).drop c = [] := List.drop_eq_nil_of_le (by rw [tl_len]; exact h)

noncomputable def isB (c : Nat) : Bool := c == 32 || c == 9
noncomputable def bEnd (x : Str) (i : Nat) : Nat := i + (((tl x).drop i).takeWhile isB).length
theorem bEnd_step {x : Str} {c : Nat} (h : c < x.length) (hb : isB (x.cps.getD c 0) = true) : bEnd x (c + 1) = bEnd x c := by
  unfold bEnd
  rw [drop_at h, List.takeWhile_cons_of_pos hb, List.length_cons]
  (first | lia | omega)
theorem bEnd_stop {x : Str} {c : Nat} (h : c < x.length) (hb : isB (x.cps.getD c 0) = false) : bEnd x c = c := by
  unfold bEnd
  rw [drop_at h, List.takeWhile_cons_of_neg (by rw [hb]; exact Bool.false_ne_true)]
  rfl
theorem bEnd_end {x : Str} {c : Nat} (h : x.length ≤ c) : bEnd x c = c := by
  unfold bEnd
  rw [drop_end h]
  rfl
theorem takeWhile_len {p : Nat → Bool} (l : List Nat) : (l.takeWhile p).length ≤ l.length := (List.takeWhile_sublist p).length_le
theorem bEnd_le {x : Str} {c : Nat} (h : c ≤ x.length) : c ≤ bEnd x c ∧ bEnd x c ≤ x.length := by
  unfold bEnd
  have := takeWhile_len (p := isB) ((tl x).drop c)
  rw [List.length_drop, tl_len] at this
  exact ⟨Nat.le_add_right _ _, Nat.le_trans (Nat.add_le_add_left this c) (Nat.le_of_eq (Nat.add_sub_of_le h))⟩

theorem item_nat {x : Str} {c : Nat} (h : c < x.length) : Txt.item x (c : Int) = ⟨#[x.cps.getD c 0]⟩ := by
  unfold Txt.item Txt.charAt
  have hc : c < x.cps.size := h
  rw [at_nonneg (n := x.cps.getD c 0) (by (first | lia | omega)) (by simp [Array.getD, hc])]
  rfl
theorem in_text (y : Str) (c : Nat) : (occurrences y ⟨#[c]⟩ 0 y.length 1).isEmpty = !decide (c ∈ tl y) := by
  rw [← found_one, Bool.not_not]
theorem in_blanks {x : Str} {c : Nat} (h : c < x.length) : (occurrences (Str.ofString " \t") (Txt.item x (c : Int)) 0 (Str.ofString " \t").length 1).isEmpty = !isB (x.cps.getD c 0) := by
  rw [item_nat h, in_text]
  congr 1
  have e : tl (Str.ofString " \t") = [32, 9] := by decide
  rw [e, Bool.eq_iff_iff]
  simp [isB]
theorem fromIx (n i : Nat) : fromIndex n (i : Int) = i := by
  unfold fromIndex
  rw [if_neg (Int.not_lt.mpr (Int.natCast_nonneg i)), Int.max_eq_right (Int.natCast_nonneg i)]
  rfl
theorem find3_lin (x : Str) (c : Nat) (i : Nat) : -1 ≤ Txt.find3 x ⟨#[c]⟩ (i : Int) ∧ Txt.find3 x ⟨#[c]⟩ (i : Int) < x.length ∧ (Txt.find3 x ⟨#[c]⟩ (i : Int) < 0 ∨ (i : Int) ≤ Txt.find3 x ⟨#[c]⟩ (i : Int)) := by
  have hf : fromIndex x.length (i : Int) = i := fromIx _ _
  rcases find3_spec x c i with ⟨e, _⟩ | ⟨k, e, h1, h2, _, _⟩
  · rw [e]; (first | lia | omega)
  · rw [e]; rw [hf] at h1; (first | lia | omega)
theorem find3_q (x : Str) (i : Nat) : -1 ≤ Txt.find3 x (Str.ofString "\"") (i : Int) ∧ Txt.find3 x (Str.ofString "\"") (i : Int) < x.length ∧ (Txt.find3 x (Str.ofString "\"") (i : Int) < 0 ∨ (i : Int) ≤ Txt.find3 x (Str.ofString "\"") (i : Int)) := find3_lin x 34 i
theorem find3_c (x : Str) (i : Nat) : -1 ≤ Txt.find3 x (Str.ofString ",") (i : Int) ∧ Txt.find3 x (Str.ofString ",") (i : Int) < x.length ∧ (Txt.find3 x (Str.ofString ",") (i : Int) < 0 ∨ (i : Int) ≤ Txt.find3 x (Str.ofString ",") (i : Int)) := find3_lin x 44 i
end Mine
end
section
namespace Mine
theorem startCm : True := by
  w_top off
  trivial
end Mine
open PySem PySem.W PyProof.Rows PySem.Calls
namespace Mine
theorem rm0 {a c N : Nat} (h : a + c < N) : a < N := Nat.lt_of_le_of_lt (Nat.le_add_right a c) h
theorem rm1 {a b c N : Nat} (h : a + c < N) (e : Nat.ble b c = true) : a + b < N := Nat.lt_of_le_of_lt (Nat.add_le_add_left (Nat.le_of_ble_eq_true e) a) h
theorem rm2 {a b d c N : Nat} (h : a + c < N) (e : Nat.ble (b + d) c = true) : a + b + d < N := Nat.add_assoc a b d ▸ rm1 h e
theorem q1 {a b w N : Nat} (h : a + 2 * (b + 1) ≤ N) (hw : w ≤ a + 1) : w + 1 + 2 * b ≤ N := by omega
theorem q2 {w c N : Nat} (h : w + 1 + c ≤ N) : w + c ≤ N := Nat.le_trans (Nat.add_le_add_right (Nat.le_succ w) c) h
theorem q3 {a b N M : Nat} (h : a + b ≤ N) (e : Nat.ble N M = true) : a ≤ M := Nat.le_trans (Nat.le_trans (Nat.le_add_right _ _) h) (Nat.le_of_ble_eq_true e)
theorem q4 {n : Nat} : ((n + 1 : Nat) : Int) ≠ 0 := fun h => Nat.succ_ne_zero n (Int.ofNat_eq_zero.mp h)
theorem q5 {r w n y v : Nat} (h : n + y ≤ 20) (h1 : r = n) (h2 : w = v) (h3 : v ≤ 1) : r + w ≤ 25 := by subst h1 h2; exact Nat.le_trans (Nat.add_le_add (Nat.le_trans (Nat.le_add_right _ _) h) h3) (by decide)
theorem q8 {a b : Nat} (h : a < b) (h2 : b ≤ 10) : (a : Int) < 2 ^ 63 := by omega
theorem q9 {n : Nat} (h : n ≤ 10) : (n : Int) ≤ 16384 := Int.ofNat_le.mpr (Nat.le_trans h (by decide))
theorem s1 {i n : Nat} (h : i < n) : n + 1 - (i + 1) < n + 1 - i := Nat.sub_lt_sub_left (Nat.lt_succ_of_lt h) (Nat.lt_succ_self i)
theorem s2 {i n : Nat} (h : (i : Int) < n) : n - (i + 1) < n - i := Nat.sub_lt_sub_left (Int.ofNat_lt.mp h) (Nat.lt_succ_self i)
theorem s3 {i n : Nat} (h : i ≤ n) (h2 : ¬ i < n) : i = n := Nat.le_antisymm h (Nat.le_of_not_lt h2)
theorem s4 {i n k : Nat} (h : i ≤ n) (h2 : n + 1 ≤ k + i) : k = k - 1 + 1 := by lia
theorem s5 {i j n : Nat} (h : i ≤ j ∧ j ≤ n) : n + 2 - (j + 1) < n + 2 - i := by lia
theorem gL {a b : Nat} (h : a < b) : a ≠ b := Nat.ne_of_lt h
theorem gG {a b : Nat} (h : b < a) : a ≠ b := Nat.ne_of_gt h
theorem hL {zza zzb : Nat} {zzR : Prop} (zzh : @LT.lt Nat _ zza zzb ∧ zzR) : zza ≠ zzb := Nat.ne_of_lt zzh.1
theorem hR {zzp zzq : Prop} (zzh : zzp ∧ zzq) : zzq := zzh.2
theorem hG {zza zzb : Nat} {zzR : Prop} (zzh : @LT.lt Nat _ zzb zza ∧ zzR) : zza ≠ zzb := Nat.ne_of_gt zzh.1
end Mine
end
local macro_rules | `(tactic| k_ne) => `(tactic| with_reducible first | assumption | exact Ne.symm ‹_› | exact Mine.gG ‹_› | exact Mine.gL ‹_› | (apply Mine.hG; (iterate 11 (try first | assumption | apply Mine.hR)); done) | (apply Mine.hL; (iterate 11 (try first | assumption | apply Mine.hR)); done))
local macro_rules | `(tactic| ktr_room) => `(tactic| first | exact Mine.rm2 (by assumption) rfl | exact Mine.rm1 (by assumption) rfl | exact Mine.rm0 (by assumption))
local macro_rules | `(tactic| ktr_units) => `(tactic| exact Mine.rm2 (by assumption) rfl)
section
namespace Mine
theorem startC0 : True := by
  w_top off
  trivial
end Mine
open PySem PySem.W PyProof.Rows PySem.Calls
namespace Mine
noncomputable def Ctr (w : World) (f : Addr) (deep cu : Nat) (vs : List Value) (news : List (Addr × Obj)) (P : Heap → Addr → Heap → (Str → Option Value) → Shared → (Value → Shared → Prop) → (Value → Shared → Prop) → Prop) : Prop :=
  ∀ (p : Program) (loose : List Str) (mean : ExcName → Option Value) (mg mb : Str → Option Value) (dp un : Nat) (gd : Option (List Code)) (cn : Str) (cs : Scope) (a : Addr) (ccd : Value) (cl : List (Str × Addr)) (outer : List Env) (A₀ : Around) (base h₀ : Heap) (L : Addr) (m : Str → Option Value) (s : Shared) (Q E : Value → Shared → Prop),
    Below A₀ base outer h₀ → Fr h₀ L s.heap m → (hd.heap_1 w.params).In h₀ → News h₀ L s.heap news → Top p loose mean mg mb h₀ → cs.kind = .function →
    dp + deep < recursionLimit → un + cu < cLine →
    P base L h₀ m s Q E →
    wpAny (model PySem.Challenge.rw_pc0006_01.row.prog w) (ktrTop dp un gd cn cs L a ccd cl outer) (call (.ref f) vs) Q E s

noncomputable abbrev Ret (h₀ : Heap) (L : Addr) (m : Str → Option Value) (s : Shared) (Q : Value → Shared → Prop) (news : List (Addr × Obj)) (v : Tok → Value) : Prop :=
  ∀ (t : Tok) (h' : Heap) (tk' : Nat) (r : Value), r = v t → Fr h₀ L h' m → News h₀ L h' news → Q r { s with heap := h', toks := tk' }

theorem Ret.use {h₀ : Heap} {L : Addr} {m : Str → Option Value} {s : Shared} {Q : Value → Shared → Prop} {news : List (Addr × Obj)} {v : Tok → Value} (k : ∀ (t : Tok) (h' : Heap) (tk' : Nat), Fr h₀ L h' m → News h₀ L h' news → Q (v t) { s with heap := h', toks := tk' }) : Ret h₀ L m s Q news v := fun t h' tk' r e F N => by subst e; exact k t h' tk' F N
theorem exH {s : Shared} {P : Shared → Prop} (k : ∀ h, P { s with heap := h }) : ∀ s', (∃ h, s' = { s with heap := h }) → P s' := fun s' hs => by obtain ⟨h, rfl⟩ := hs; exact k h
noncomputable abbrev tupO (vs : List Value) : Obj := { cls := .type "tuple", data := .seq vs.toArray }
/-- a new tuple handed back -/
noncomputable abbrev RetT (h₀ : Heap) (L : Addr) (m : Str → Option Value) (s : Shared) (Q : Value → Shared → Prop) (news : List (Addr × Obj)) (v : Tok → Tok → List Value) : Prop :=
  ∀ (t t2 : Tok) (D : Addr) (h' : Heap) (tk' : Nat) (vs : List Value), Fr h₀ L h' m → News h₀ L h' ((D, tupO vs) :: news) → (∀ p ∈ news, p.1 < D) → vs = v t t2 → Q (.ref D) { s with heap := h', toks := tk' }
/-- `generalize` is undone when the proof is closed (a hole's head is beta-reduced): these are not -/
theorem ex4 {α β γ δ : Type} {P : α → β → γ → δ → Prop} (a : α) (b : β) (c : γ) (d : δ) (h : P a b c d) : ∃ a b c d, P a b c d := ⟨a, b, c, d, h⟩
theorem ex5 {α β γ δ ε : Type} {P : α → β → γ → δ → ε → Prop} (a : α) (b : β) (c : γ) (d : δ) (e : ε) (h : P a b c d e) : ∃ a b c d e, P a b c d e := ⟨a, b, c, d, e, h⟩
theorem genTok {M : Model} {A : Around} {α : Type} {t : Sem α} {Q : α → Shared → Prop} {E : Value → Shared → Prop} {h : Heap} {g d o} {X : Nat} (k : ∀ tk, wpAny M A t Q E ⟨h, g, d, tk, o⟩) : wpAny M A t Q E ⟨h, g, d, X, o⟩ := k X
theorem genEq {α : Type} (e : α) {P : Prop} (k : ∀ x, e = x → P) : P := k e rfl
theorem genNews {h₀ h : Heap} {L : Addr} {l : List (Addr × Obj)} (N : News h₀ L h l) {P : Prop} (k : ∀ L0, l = L0 → News h₀ L h L0 → P) : P := k l rfl N
theorem genNews2 {h₀ h : Heap} {L : Addr} {q1 q2 : Addr × Obj} {l : List (Addr × Obj)} (N : News h₀ L h (q1 :: q2 :: l)) {P : Prop} (k : ∀ L0, l = L0 → News h₀ L h (q1 :: q2 :: L0) → P) : P := k l rfl N
noncomputable def Stop (P : Prop) : Prop := P
inductive StopOff : Prop | mk
theorem Stop.out {P : Prop} (h : Stop P) : P := h
theorem Stop.mk {P : Prop} (h : P) : Stop P := h
/-- none, or a new list of texts -/
noncomputable abbrev RetL (h₀ : Heap) (L : Addr) (m : Str → Option Value) (s : Shared) (Q : Value → Shared → Prop) (news : List (Addr × Obj)) (T : Option (List Str)) : Prop :=
  (T = none → ∀ (h' : Heap) (tk' : Nat), Fr h₀ L h' m → News h₀ L h' news → Q .none { s with heap := h', toks := tk' }) ∧
  (∀ fs, T = some fs → ∀ (vs : List Value) (n : Nat) (l : Addr) (h' : Heap) (tk' : Nat), StrsAre vs fs → Fr h₀ L h' m → News h₀ L h' ((l, W.listOf vs.toArray n) :: news) → (∀ p ∈ news, p.1 < l) → Q (.ref l) { s with heap := h', toks := tk' })
theorem nameBy {news : List (Addr × Obj)} {l : Addr} (_h : ∀ p ∈ news, p.1 < l) {P : Prop} (k : ∀ l' : Addr, l' = l → P) : P := k l rfl
theorem allLt_mem {d : Addr} {l : List (Addr × Obj)} (h : AllLt d l) : ∀ p ∈ l, p.1 < d := by
  induction l with
  | nil => exact fun p hp => absurd hp List.not_mem_nil
  | cons q r ih =>
    intro p hp
    rcases List.mem_cons.mp hp with e | hp
    · exact e ▸ h.1
    · exact ih h.2 p hp
theorem ndrop {h₀ h : Heap} {L : Addr} {a b c : List (Addr × Obj)} (N : News h₀ L h (a ++ (b ++ c))) : News h₀ L h (a ++ c) := fun p hp => N p (by
  rcases List.mem_append.mp hp with h | h
  · exact List.mem_append.mpr (.inl h)
  · exact List.mem_append.mpr (.inr (List.mem_append.mpr (.inr h))))
noncomputable def Has (m : Str → Option Value) : List (Str × Value) → Prop
  | [] => True
  | p :: r => m p.1 = some p.2 ∧ Has m r
theorem Has.all {m : Str → Option Value} : ∀ {ps : List (Str × Value)}, Has m ps → ∀ p ∈ ps, m p.1 = some p.2
  | _ :: _, h, _, .head _ => h.1
  | _ :: _, h, _, .tail _ hp => h.2.all _ hp
theorem Has.kst {m : Str → Option Value} {ps : List (Str × Value)} (h : Has m ps) : kstB m ps = m := funext fun _ => kstB_eq h.all fun _ => rfl
section
variable {prog : Program} {w : World} {A : Around} {E : Value → Shared → Prop} {Q : Flow → Shared → Prop} {s : Shared} {env : Env} {h₀ : Heap} {L : Addr}
noncomputable def WlEnd {σ : Type} (h₀ : Heap) (L : Addr) (s : Shared) (Led : σ → List (Addr × Obj)) (ps : σ → List (Str × Value)) (P : σ → Prop) (μ : σ → Nat) (c : σ) (s₂ : Shared) : Prop :=
  ∃ (c' : σ) (h' : Heap) (tk : Nat) (m' : Str → Option Value), s₂ = { s with heap := h', toks := tk } ∧ Fr h₀ L h' m' ∧ News h₀ L h' (Led c') ∧ Has m' (ps c') ∧ P c' ∧ μ c' < μ c
noncomputable def WlPost {σ : Type} (h₀ : Heap) (L : Addr) (s : Shared) (Led : σ → List (Addr × Obj)) (ps : σ → List (Str × Value)) (P : σ → Prop) (μ : σ → Nat) (Q : Flow → Shared → Prop) (c : σ) (f : Flow) (s₂ : Shared) : Prop :=
  match f with
  | .ret v => Q (.ret v) s₂
  | .brk => Q .next s₂
  | _ => WlEnd h₀ L s Led ps P μ c s₂
theorem wl {σ : Type} {test : PySem.Expr} {body : List Stmt} {pos : Pos} {m₀ : Str → Option Value} (Led : σ → List (Addr × Obj)) (ps : σ → List (Str × Value)) (P : σ → Prop) (μ : σ → Nat)
    (F : Fr h₀ L s.heap m₀) (hc : ∃ c₀, News h₀ L s.heap (Led c₀) ∧ Has m₀ (ps c₀) ∧ P c₀)
    (turn : ∀ (c : σ) (u : Str → Option Value) h tk, P c → Fr h₀ L h (kstB u (ps c)) → News h₀ L h (Led c) →
      wpAny (model prog w) A (isTrue test env (eval test env)) (fun b s₂ =>
        if b = true then wpAny (model prog w) A (execs body env) (WlPost h₀ L s Led ps P μ Q c) E s₂ else Q .next s₂) E { s with heap := h, toks := tk })
    (hE : PassesOwn (model prog w) A env E) :
    wpAny (model prog w) A (exec (.While test body [] pos) env) Q E s := by
  obtain ⟨c₀, N, hk, hp⟩ := hc
  refine While_inv2 (fun n m nx => ∃ c : σ, nx = Led c ∧ μ c = n ∧ Has m (ps c) ∧ P c) F N ⟨c₀, rfl, rfl, hk, hp⟩ ?_ hE
  rintro n m₁ nx h tk F₁ N₁ ⟨c, hnx, hsz, h1, hp'⟩
  rw [hnx] at N₁
  rw [← hsz]
  refine wpAny_mono (turn c m₁ h tk hp' (by rw [h1.kst]; exact F₁) N₁) (fun b s₂ p => ?_) fun _ _ x => x
  cases b with
  | false => simpa using p
  | true =>
    simp only [if_true] at p ⊢
    refine wpAny_mono p (fun f s₃ q => ?_) fun _ _ x => x
    have fin : WlEnd h₀ L s Led ps P μ c s₃ → WhileStep2 h₀ L s (fun n m nx => ∃ c : σ, nx = Led c ∧ μ c = n ∧ Has m (ps c) ∧ P c) Q (μ c) .next s₃ := fun q => by
      obtain ⟨c', h', tk', m', rfl, F', N', hk9, hp9, hm9⟩ := q
      exact ⟨h', tk', m', Led c', μ c', rfl, F', N', hm9, c', rfl, rfl, hk9, hp9⟩
    cases f with
    | ret v => exact q
    | brk => exact q
    | next => exact fin q
    | cont => exact fin q
end
end Mine
end
section
namespace Mine
theorem startC0b : True := by
  w_top off
  trivial
end Mine
open PySem PySem.W PyProof.Rows PySem.Calls PyProof.V PySem.Spec
namespace Mine
section
variable {prog : Program} {w : World} {A : Around} {E : Value → Shared → Prop} {s : Shared} {env : Env} {h₀ : Heap} {x : Str} {body : List Stmt} {Q : Flow → Shared → Prop}
noncomputable def FlEnd {σ : Type} (h₀ : Heap) (L : Addr) (s : Shared) (own : List (Addr × Obj)) (Led : σ → List (Addr × Obj)) (ps : σ → List (Str × Value)) (P : σ → Prop) (s₂ : Shared) : Prop :=
  ∃ (c' : σ) (h' : Heap) (tk : Nat) (m' : Str → Option Value), s₂ = { s with heap := h', toks := tk } ∧ Fr h₀ L h' m' ∧ News h₀ L h' (Led c' ++ own) ∧ Has m' (ps c') ∧ P c'
noncomputable def FlPost {σ : Type} (h₀ : Heap) (L : Addr) (s : Shared) (own : List (Addr × Obj)) (Led : σ → List (Addr × Obj)) (ps : σ → List (Str × Value)) (P : σ → Prop) (Q : Flow → Shared → Prop) (f : Flow) (s₂ : Shared) : Prop :=
  match f with
  | .ret v => Q (.ret v) s₂
  | .brk => Q .next s₂
  | _ => FlEnd h₀ L s own Led ps P s₂
theorem fl {σ : Type} {I : Addr} {fp wr : List Addr} {n : Nat} {Pv : Nat → Value → Prop} {St : Nat → Heap → Prop} {m₀ : Str → Option Value} (Led : σ → List (Addr × Obj)) (ps : σ → List (Str × Value)) (P : Nat → σ → Prop)
    (W : Walks prog w A I fp wr n Pv St) (hLf : env.locals ∉ fp) (hwr : ∀ b ∈ wr, h₀.get? b = none) (hst : St 0 s.heap) (F : Fr h₀ env.locals s.heap m₀)
    (hc : ∃ c₀, News h₀ env.locals s.heap (Led c₀) ∧ (∀ p ∈ Led c₀, p.1 ∉ fp) ∧ Has m₀ (ps c₀) ∧ P 0 c₀) (adr : ∀ c c', (Led c).map (·.1) = (Led c').map (·.1))
    (turn : ∀ i v (c : σ) (u : Str → Option Value) h tk own, i < n → Pv i v → OwnOff own ((Led c).map (·.1)) → P i c →
      Fr h₀ env.locals h (fun y => if y = x then some v else kstB u (ps c) y) → News h₀ env.locals h (Led c ++ own) →
      wpAny (model prog w) A (execs body env) (FlPost h₀ env.locals { s with heap := h, toks := tk } own Led ps (P (i + 1)) Q) E { s with heap := h, toks := tk })
    (done : ∀ (c : σ) (u : Str → Option Value) h tk, P n c → Fr h₀ env.locals h (kstB u (ps c)) → News h₀ env.locals h (Led c) → Q .next { s with heap := h, toks := tk }) :
    LoopAtV prog w A h₀ env x body Q E (.ref I) s := by
  obtain ⟨c₀, N, hoff, hk, hp⟩ := hc
  refine loop_invN (fun i m nx => ∃ c : σ, nx = Led c ∧ Has m (ps c) ∧ P i c) W hLf hwr (fun p hp hq => hoff p hp (W.sub _ hq)) hoff hst F N ⟨c₀, rfl, hk, hp⟩ ?_ ?_
  · rintro i v m₁ nx h tk own hi hv _ hsep ⟨c, rfl, h1, hp'⟩ F₁ N₁
    have em : (fun y => if y = x then some v else m₁ y) = fun y => if y = x then some v else kstB m₁ (ps c) y := by rw [h1.kst]
    rw [em] at F₁
    refine wpAny_mono (turn i v c m₁ h tk own hi hv (by rw [adr c c₀]; exact hsep) hp' F₁ N₁) (fun f s₂ q => ?_) fun _ _ x => x
    have fin : FlEnd h₀ env.locals { s with heap := h, toks := tk } own Led ps (P (i + 1)) s₂ → InvEndN h₀ env.locals (fun m nx => ∃ c : σ, nx = Led c ∧ Has m (ps c) ∧ P (i + 1) c) own ((Led c₀).map (·.1)) { s with heap := h, toks := tk } s₂ := by
      rintro ⟨c', h', tk', m', rfl, F', N', hk9, hp9⟩
      exact ⟨h', tk', m', Led c' ++ own, Led c', rfl, F', N', fun p hp => List.mem_append.mpr (.inl hp), fun p hp => List.mem_append.mpr (.inr hp), adr c' c₀, c', rfl, hk9, hp9⟩
    cases f with
    | ret v => exact q
    | brk => exact q
    | next => exact fin q
    | cont => exact fin q
  · rintro m₁ nx h tk ⟨c, rfl, h1, hp'⟩ F₁ N₁
    exact done c m₁ h tk hp' (by rw [h1.kst]; exact F₁) N₁
theorem fl_str {σ : Type} {xt : Str} {tx : Tok} {m₀ : Str → Option Value} (Led : σ → List (Addr × Obj)) (ps : σ → List (Str × Value)) (P : Nat → σ → Prop)
    (hh : A.handled = none) (F : Fr h₀ env.locals s.heap m₀) (hc : ∃ c₀, News h₀ env.locals s.heap (Led c₀) ∧ Has m₀ (ps c₀) ∧ P 0 c₀) (adr : ∀ c c', (Led c).map (·.1) = (Led c').map (·.1))
    (turn : ∀ i n t (c : σ) (u : Str → Option Value) h tk own, xt.cps.toList[i]? = some n → OwnOff own ((Led c).map (·.1)) → P i c →
      Fr h₀ env.locals h (fun y => if y = x then some (.str ⟨#[n]⟩ t) else kstB u (ps c) y) → News h₀ env.locals h (Led c ++ own) →
      wpAny (model prog w) A (execs body env) (FlPost h₀ env.locals { s with heap := h, toks := tk } own Led ps (P (i + 1)) Q) E { s with heap := h, toks := tk })
    (done : ∀ (c : σ) (u : Str → Option Value) h tk, P xt.length c → Fr h₀ env.locals h (kstB u (ps c)) → News h₀ env.locals h (Led c) → Q .next { s with heap := h, toks := tk }) :
    wpAny (model prog w) A (pyIter (.str xt tx)) (fun it s₂ => LoopAtV prog w A h₀ env x body Q E it s₂) E s := by
  refine wpAny_pyIter_str fun o St hW hst => ?_
  obtain ⟨c₀, N, hk, hp⟩ := hc
  have W := hW A hh
  refine fl Led ps P W ?_ ?_ hst (F.push _) ⟨c₀, fun p hp => ⟨Heap.get?_push_of_some _ (N p hp).1, (N p hp).2⟩, fun p hp hI => absurd (Heap.lt_size (N p hp).1) ((List.mem_singleton.mp hI) ▸ Nat.lt_irrefl _), hk, hp⟩ adr ?_ ?_
  · intro hm
    exact absurd F.ns.lt ((List.mem_singleton.mp hm) ▸ Nat.lt_irrefl _)
  · intro b' hb
    rw [List.mem_singleton.mp hb]
    exact next_is_new F
  · rintro i v c u h tk own hi ⟨n, t, hn, rfl⟩ hoff hp' F₁ N₁
    exact turn i n t c u h tk own (by simpa using hn) hoff hp' F₁ N₁
  · exact done
end
theorem has_take {a : Heap} {L : Addr} {l r : List (Addr × Obj)} {h₀ : Heap} (N : News h₀ L a (l ++ r)) : News h₀ L a l := fun p hp => N p (List.mem_append.mpr (.inl hp))
end Mine
end
section
namespace Mine
theorem startC0c : True := by
  w_top off
  trivial
end Mine
open PySem PySem.W PyProof.Rows PySem.Calls PyProof.V PySem.Spec
namespace Mine
theorem nameAll {news : List (Addr × Obj)} {d : Addr} (_h : AllLt d news) {P : Prop} (k : ∀ b : Addr, b = d → P) : P := k d rfl
theorem nameEq {α : Type} {o : Option α} {a : α} (_h : o = some a) {P : Prop} (k : ∀ b, b = a → P) : P := k a rfl
section
variable {prog : Program} {w : World} {A : Around} {E : Value → Shared → Prop} {s : Shared} {env : Env} {h₀ : Heap} {xi xc : Str} {body : List Stmt} {Q : Flow → Shared → Prop}
theorem strs_get {vs : List Value} {ss : List Str} (h : StrsAre vs ss) {i : Nat} {v : Value} (hv : vs[i]? = some v) : ∃ y t, ss[i]? = some y ∧ v = .str y t := by
  obtain ⟨y, t, rfl, hy⟩ := h.item i v hv
  exact ⟨y, t, hy, rfl⟩
theorem zl {σ : Type} {l1 l2 : Addr} {n1 n2 : Nat} {vs₁ vs₂ : List Value} {as bs : List Str} {m₀ : Str → Option Value} (Led : σ → List (Addr × Obj)) (ps : σ → List (Str × Value)) (P : Nat → σ → Prop)
    (hh : A.handled = none) (F : Fr h₀ env.locals s.heap m₀)
    (hc : ∃ c₀, News h₀ env.locals s.heap (Led c₀) ∧ (l1, W.listOf vs₁.toArray n1) ∈ Led c₀ ∧ (l2, W.listOf vs₂.toArray n2) ∈ Led c₀ ∧ Has m₀ (ps c₀) ∧ P 0 c₀)
    (hA₁ : StrsAre vs₁ as) (hA₂ : StrsAre vs₂ bs) (adr : ∀ c c', (Led c).map (·.1) = (Led c').map (·.1))
    (turn : ∀ i a b ta tb (c : σ) (u : Str → Option Value) h tk own, as[i]? = some a → bs[i]? = some b → (∀ d, d < s.heap.objs.size → d ≠ l1 → d ≠ l2 → ∀ p ∈ own, p.1 ≠ d) → P i c →
      Fr h₀ env.locals h (fun y => if y = xc then some (.str b tb) else if y = xi then some (.str a ta) else kstB u (ps c) y) → News h₀ env.locals h (Led c ++ own) →
      wpAny (model prog w) A (execs body env) (FlPost h₀ env.locals { s with heap := h, toks := tk } own Led ps (P (i + 1)) Q) E { s with heap := h, toks := tk })
    (done : ∀ (c : σ) (u : Str → Option Value) h tk, P (min as.length bs.length) c → Fr h₀ env.locals h (kstB u (ps c)) → News h₀ env.locals h (Led c) → Q .next { s with heap := h, toks := tk }) :
    wpAny (model prog w) A (call (.type "zip") [.ref l1, .ref l2]) (fun xv s₁ => wpAny (model prog w) A (pyIter xv) (fun it s₂ => PairAt3 prog w A h₀ env xi xc body Q E it s₂) E s₁) E s := by
  obtain ⟨c₀, N, m1, m2, hk, hp⟩ := hc
  have hls1 : s.heap.IsList l1 vs₁.toArray := N.isList m1
  have hls2 : s.heap.IsList l2 vs₂.toArray := N.isList m2
  have a1 : l1 < s.heap.objs.size := Heap.lt_size (N _ m1).1
  have a2 : l2 < s.heap.objs.size := Heap.lt_size (N _ m2).1
  have hLs : env.locals < s.heap.objs.size := F.ns.lt
  have hab : h₀.objs.size ≤ env.locals := F.above
  refine call_zip_2 hls1 hls2 fun h' hz hTI hTO hit1 hit2 hsz hkeep => ?_
  have F' : Fr h₀ env.locals h' m₀ := ⟨F.ns.keeps hkeep, fun b o e => hkeep b o (F.keep b o e), F.above⟩
  have N' : News h₀ env.locals h' (Led c₀) := fun p hp => ⟨hkeep _ _ (N p hp).1, (N p hp).2⟩
  have W := WalksT.zip2 (prog := prog) (w := w) hh (s.heap.objs.size + 4) (s.heap.objs.size + 2) (s.heap.objs.size + 3) s.heap.objs.size (s.heap.objs.size + 1) l1 l2 (zipApart_new a1 a2) vs₁.toArray vs₂.toArray
  have hst : IsZip h' (s.heap.objs.size + 4) (s.heap.objs.size + 2) (s.heap.objs.size + 3) .none ∧ IsPair h' (s.heap.objs.size + 2) (.ref s.heap.objs.size) (.ref (s.heap.objs.size + 1)) ∧ (∃ a b, IsPair h' (s.heap.objs.size + 3) a b) ∧ h'.IsListIter s.heap.objs.size l1 0 ∧ h'.IsListIter (s.heap.objs.size + 1) l2 0 ∧ h'.IsList l1 vs₁.toArray ∧ h'.IsList l2 vs₂.toArray :=
    ⟨hz, hTI, ⟨_, _, hTO⟩, hit1, hit2, hls1.at fun o e => hkeep l1 o e, hls2.at fun o e => hkeep l2 o e⟩
  refine W.self 0 _ _ _ hst ?_
  have hn : min vs₁.toArray.size vs₂.toArray.size = min as.length bs.length := by simp [hA₁.length, hA₂.length]
  have up : ∀ k, env.locals ≠ s.heap.objs.size + k := fun k e => Nat.ne_of_lt (Nat.lt_of_lt_of_le hLs (Nat.le_add_right _ k)) e
  refine ⟨_, _, _, _, _, _, _, (fun i v0 v1 => ∃ a b ta tb, as[i]? = some a ∧ bs[i]? = some b ∧ v0 = .str a ta ∧ v1 = .str b tb), m₀, Led c₀, (fun i m nx => ∃ c : σ, nx = Led c ∧ Has m (ps c) ∧ P i c), rfl, W, ?_, ?_, ?_, ?_, hst, F', N', ⟨c₀, rfl, hk, hp⟩, ?_, ?_⟩
  · rintro i vals ⟨x, y, hx, hy, rfl⟩
    obtain ⟨a, ta, ha, rfl⟩ := strs_get hA₁ (i := i) (v := x) (by simpa using hx)
    obtain ⟨b, tb, hb, rfl⟩ := strs_get hA₂ (i := i) (v := y) (by simpa using hy)
    exact ⟨_, _, rfl, a, b, ta, tb, ha, hb, rfl, rfl⟩
  · intro hm
    simp only [List.mem_cons, List.not_mem_nil, or_false] at hm
    rcases hm with e | e | e | e | e | e | e
    · exact up 4 e
    · exact up 2 e
    · exact up 3 e
    · exact up 0 e
    · exact up 1 e
    · exact (N _ m1).2.1 e.symm
    · exact (N _ m2).2.1 e.symm
  · intro b hb
    simp only [List.mem_cons, List.not_mem_nil, or_false] at hb
    have nw : ∀ k, h₀.get? (s.heap.objs.size + k) = none := fun k => Heap.get?_none_of_le (Nat.le_trans hab (Nat.le_trans (Nat.le_of_lt hLs) (Nat.le_add_right _ k)))
    rcases hb with rfl | rfl | rfl | rfl
    · exact nw 4
    · exact nw 3
    · exact nw 0
    · exact nw 1
  · intro p hp hm
    have hq1 : p.1 < s.heap.objs.size := Heap.lt_size (N p hp).1
    simp only [List.mem_cons, List.not_mem_nil, or_false] at hm
    have dn : ∀ k, p.1 ≠ s.heap.objs.size + k := fun k e => Nat.ne_of_lt (Nat.lt_of_lt_of_le hq1 (Nat.le_add_right _ k)) e
    rcases hm with e | e | e | e
    · exact dn 4 e
    · exact dn 3 e
    · exact dn 0 e
    · exact dn 1 e
  · rintro i v0 v1 m₁ nx s₁ own ⟨h, tk, rfl⟩ hi ⟨a, b, ta, tb, ha, hb, rfl, rfl⟩ ⟨c, rfl, h1, hp'⟩ hadr hsub F₁ N₁
    have em : (fun y => if y = xc then some (Value.str b tb) else if y = xi then some (Value.str a ta) else m₁ y) = fun y => if y = xc then some (Value.str b tb) else if y = xi then some (Value.str a ta) else kstB m₁ (ps c) y := by rw [h1.kst]
    rw [em] at F₁
    have N₂ : News h₀ env.locals h (Led c ++ own) := fun p hp => N₁ p ((List.mem_append.mp hp).elim (fun h => List.mem_append.mpr (.inr h)) fun h => List.mem_append.mpr (.inl h))
    refine wpAny_mono (turn i a b ta tb c m₁ h tk own ha hb (fun d hd d1 d2 p hp e => ?_) hp' F₁ N₂) (fun f s₂ q => ?_) fun _ _ x => x
    · have hm := hsub p hp
      rw [e] at hm
      simp only [List.mem_cons, List.not_mem_nil, or_false] at hm
      have dn : ∀ k, d ≠ s.heap.objs.size + k := fun k e => Nat.ne_of_lt (Nat.lt_of_lt_of_le hd (Nat.le_add_right _ k)) e
      rcases hm with e | e | e | e | e | e | e
      · exact dn 4 e
      · exact dn 2 e
      · exact dn 3 e
      · exact dn 0 e
      · exact dn 1 e
      · exact d1 e
      · exact d2 e
    have fin : FlEnd h₀ env.locals { s with heap := h, toks := tk } own Led ps (P (i + 1)) s₂ → LoopStep2 h₀ env.locals own (Led c) (fun m nx => ∃ c : σ, nx = Led c ∧ Has m (ps c) ∧ P (i + 1) c) { s with heap := h, toks := tk } .next s₂ := by
      rintro ⟨c', h', tk', m', rfl, F', N', hk9, hp9⟩
      exact ⟨rfl, h', tk', m', Led c', rfl, F', fun p hp => N' p ((List.mem_append.mp hp).elim (fun h => List.mem_append.mpr (.inr h)) fun h => List.mem_append.mpr (.inl h)), adr c' c, c', rfl, hk9, hp9⟩
    cases f with
    | ret v => exact q
    | brk => exact q
    | next => exact fin q
    | cont => exact fin q
  · rintro h'' tk m' nx F'' N'' hadr ⟨c, rfl, h1, hp'⟩
    exact done c m' h'' tk (hn ▸ hp') (by rw [h1.kst]; exact F'') N''
theorem el_str {σ : Type} {xt : Str} {tx : Tok} {m₀ : Str → Option Value} (Led : σ → List (Addr × Obj)) (ps : σ → List (Str × Value)) (P : Nat → σ → Prop)
    (hh : A.handled = none) (F : Fr h₀ env.locals s.heap m₀)
    (hc : ∃ c₀, News h₀ env.locals s.heap (Led c₀) ∧ Has m₀ (ps c₀) ∧ P 0 c₀) (adr : ∀ c c', (Led c).map (·.1) = (Led c').map (·.1))
    (turn : ∀ (i : Nat) n ti t (c : σ) (u : Str → Option Value) h tk own, xt.cps.toList[i]? = some n → OwnOff own ((Led c).map (·.1)) → P i c →
      Fr h₀ env.locals h (fun y => if y = xc then some (.str ⟨#[n]⟩ t) else if y = xi then some (.int i ti) else kstB u (ps c) y) → News h₀ env.locals h (Led c ++ own) →
      wpAny (model prog w) A (execs body env) (FlPost h₀ env.locals { s with heap := h, toks := tk } own Led ps (P (i + 1)) Q) E { s with heap := h, toks := tk })
    (done : ∀ (c : σ) (u : Str → Option Value) h tk, P xt.length c → Fr h₀ env.locals h (kstB u (ps c)) → News h₀ env.locals h (Led c) → Q .next { s with heap := h, toks := tk }) :
    wpAny (model prog w) A (call (.type "enumerate") [.str xt tx]) (fun xv s₁ => wpAny (model prog w) A (pyIter xv) (fun it s₂ => PairAt3 prog w A h₀ env xi xc body Q E it s₂) E s₁) E s := by
  obtain ⟨c₀, N, hk, hp⟩ := hc
  refine call_enum_str hh F N fun h' e F' N' S => ?_
  refine S env rfl xi xc body Q (fun i m nx => ∃ c : σ, nx = Led c ∧ Has m (ps c) ∧ P i c) ⟨c₀, rfl, hk, hp⟩ ?_ ?_
  · rintro i a ti v m₁ nx s₁ own ⟨h, tk, rfl⟩ ha ⟨t, rfl⟩ ⟨c, rfl, h1, hp'⟩ hadr hsub F₁ N₁
    obtain ⟨n, hn, rfl⟩ : ∃ n, xt.cps.toList[i]? = some n ∧ (⟨#[n]⟩ : Str) = a := by
      unfold signs at ha
      rw [List.getElem?_map] at ha
      exact Option.map_eq_some_iff.mp ha
    have em : (fun y => if y = xc then some (Value.str ⟨#[n]⟩ t) else if y = xi then some (Value.int i ti) else m₁ y) = fun y => if y = xc then some (Value.str ⟨#[n]⟩ t) else if y = xi then some (Value.int i ti) else kstB m₁ (ps c) y := by rw [h1.kst]
    rw [em] at F₁
    have N₂ : News h₀ env.locals h (Led c ++ own) := fun p hp => N₁ p ((List.mem_append.mp hp).elim (fun h => List.mem_append.mpr (.inr h)) fun h => List.mem_append.mpr (.inl h))
    refine wpAny_mono (turn i n ti t c m₁ h tk own hn (fun p hp b hb e => ?_) hp' F₁ N₂) (fun f s₂ q => ?_) fun _ _ x => x
    · rw [hadr] at hb
      obtain ⟨q, hq, rfl⟩ := List.mem_map.mp hb
      exact hsub p hp q hq e
    have fin : FlEnd h₀ env.locals { s with heap := h, toks := tk } own Led ps (P (i + 1)) s₂ → LoopStep2 h₀ env.locals own (Led c) (fun m nx => ∃ c : σ, nx = Led c ∧ Has m (ps c) ∧ P (i + 1) c) { s with heap := h, toks := tk } .next s₂ := by
      rintro ⟨c', h', tk', m', rfl, F', N', hk9, hp9⟩
      exact ⟨rfl, h', tk', m', Led c', rfl, F', fun p hp => N' p ((List.mem_append.mp hp).elim (fun h => List.mem_append.mpr (.inr h)) fun h => List.mem_append.mpr (.inl h)), adr c' c, c', rfl, hk9, hp9⟩
    cases f with
    | ret v => exact q
    | brk => exact q
    | next => exact fin q
    | cont => exact fin q
  · rintro h'' tk m' nx F'' N'' hadr ⟨c, rfl, h1, hp'⟩
    have hl : (signs xt).length = xt.length := by simp [signs, Str.length]
    exact done c m' h'' tk (hl ▸ hp') (by rw [h1.kst]; exact F'') N''
end
end Mine
end
section
namespace Mine
theorem startC0e : True := by
  w_top off
  trivial
end Mine
open PySem PySem.W PyProof.Rows PySem.Calls PyProof.V PySem.Spec
open PyProof.Rows.LCp PyProof.Rows.LCg
namespace Mine
section
variable {prog : Program} {w : World} {A : Around} {E : Value → Shared → Prop} {s : Shared} {h₀ : Heap} {L : Addr} {m : Str → Option Value} {env : Env}
theorem gc_loop {elt target iter : PySem.Expr} {ifs : List PySem.Expr} {scope : Scope} {pos : Pos} {it acc : Value} {env : Env} {R : Result → Shared → Prop} (I : Nat → Shared → Prop)
    (turn : ∀ n s, I n s → wpAny (model prog w) A (pyNext it) (fun r s₁ => match r with
      | none => R (.ok .next) s₁
      | some v => wpAny (model prog w) A (letOwnedTupleGo target it v) (fun _ s₀ => wpAny (model prog w) A (assign target env v) (fun _ s₂ =>
          wpAny (model prog w) A (forIn ifs true fun c r => if r = true then do let ok ← PySem.isTrue c env (eval c env); pure (ForInStep.yield ok) else pure (ForInStep.yield r)) (fun ok s₃ =>
            if ok = true then wpAny (model prog w) A (eval elt env) (fun x s₄ =>
              wpAny (model prog w) A (call (.builtin "list.append") [acc, x]) (fun _ s₅ => ∃ m, m < n ∧ I m s₅) (notedBy (model prog w) A env fun e s' => R (.error e) s') s₄) (notedBy (model prog w) A env fun e s' => R (.error e) s') s₃
            else ∃ m, m < n ∧ I m s₃) (notedBy (model prog w) A env fun e s' => R (.error e) s') s₂)
          (notedBy (model prog w) A env fun e s' => R (.error e) s') s₀) (notedBy (model prog w) A env fun e s' => R (.error e) s') s₁) (notedBy (model prog w) A env fun e s' => R (.error e) s') s)
    (n : Nat) (h : I n s) : codeAny (model prog w) A (.compLoop (.ListComp elt [⟨target, iter, ifs, 0⟩] scope pos) 0 it acc env) R s := by
  refine codeAny_loop rfl I (fun n s hI => ?_) n h
  show wpAny _ A ((compTurn (.ListComp elt [⟨target, iter, ifs, 0⟩] scope pos) 0 it acc env).onRaise (fun x => do noteFrame x env; theTreesLotGoes x)) _ _ s
  refine wpAny_noted ?_
  rw [compTurn_list]
  refine wpAny_bind (wpAny_standAt (wpAny_bind (wpAny_mono (turn n s hI) (fun r s₁ h₁ => ?_) fun _ _ h' => h')))
  cases r with
  | none => exact wpAny_pure h₁
  | some v =>
    refine wpAny_bind (wpAny_mono h₁ (fun _ s₀ h₀' => ?_) fun _ _ h' => h')
    refine wpAny_bind (wpAny_mono h₀' (fun _ s₂ h₂ => wpAny_bind (wpAny_mono h₂ (fun ok s₃ h₃ => ?_) fun _ _ h' => h')) fun _ _ h' => h')
    cases ok with
    | false => exact wpAny_pure ⟨rfl, h₃⟩
    | true =>
      exact wpAny_bind (wpAny_bind (wpAny_mono h₃ (fun x s₄ h₄ => wpAny_bind (wpAny_mono h₄ (fun _ s₅ h₅ => wpAny_pure (wpAny_pure ⟨rfl, h₅⟩)) fun _ _ h' => h')) fun _ _ h' => h'))

/-- one step of the source, the target bound -/
noncomputable def Adv (prog : Program) (w : World) (A : Around) (h₀ : Heap) (L : Addr) (m : Str → Option Value) (target : PySem.Expr) (cenv : Addr → Env) (I : Addr) (fp wr : List Addr) (n : Nat) (St : Nat → Heap → Prop) (PP : Nat → (Str → Option Value) → Prop) : Prop :=
  ∀ i (s : Shared) C m' led (R₀ K : Shared → Prop) (E₁ E₂ E₃ : Value → Shared → Prop), i < n → St i s.heap → C ∉ fp → Fr h₀ L s.heap m → s.heap.Ns C m' → News h₀ L s.heap led → (∀ p ∈ led, p.1 ≠ C ∧ p.1 ∉ wr) → h₀.get? C = none → C ≠ L →
    (∀ m₂ h₇ tk₇, PP i m₂ → St (i + 1) h₇ → Fr h₀ L h₇ m → h₇.Ns C m₂ → News h₀ L h₇ led → K { s with heap := h₇, toks := tk₇ }) →
    wpAny (model prog w) A (pyNext (.ref I)) (fun r s₁ => match r with
      | none => R₀ s₁
      | some v => wpAny (model prog w) A (letOwnedTupleGo target (.ref I) v) (fun _ s₀ => wpAny (model prog w) A (assign target (cenv C) v) (fun _ s' => K s') E₃ s₀) E₂ s₁) E₁ s
noncomputable def GcEnd (h₀ : Heap) (L : Addr) (m : Str → Option Value) (s₁ : Shared) (C : Addr) (oC : Obj) (D : Addr) (ys : List Value) (nx own : List (Addr × Obj)) (J : List (Addr × Obj) → Prop) (s₂ : Shared) : Prop :=
  ∃ h' tk nx', s₂ = { s₁ with heap := h', toks := tk } ∧ Fr h₀ L h' m ∧ News h₀ L h' ((C, oC) :: (D, lst ys) :: (nx' ++ own)) ∧ (∀ p ∈ nx', (∃ q ∈ nx, q.1 = p.1) ∨ ∀ q ∈ (C, oC) :: (D, lst ys) :: (nx ++ own), q.1 < p.1) ∧ J nx'
noncomputable abbrev GcTurn (prog : Program) (w : World) (A : Around) (h₀ : Heap) (L : Addr) (m : Str → Option Value) (elt : PySem.Expr) (ifs : List PySem.Expr) (cenv : Addr → Env) (PP : Nat → (Str → Option Value) → Prop) (J : Nat → List Value → List (Addr × Obj) → Prop) (n : Nat) (s₂ : Shared) : Prop :=
  ∀ i ys nx C oC D m₂ own h tk (E' : Value → Shared → Prop), i < n → PP i m₂ → J i ys nx → NsObj oC m₂ → Fr h₀ L h m → News h₀ L h ((C, oC) :: (D, lst ys) :: (nx ++ own)) →
    wpAny (model prog w) A (forIn ifs true fun c r => if r = true then do let ok ← PySem.isTrue c (cenv C) (eval c (cenv C)); pure (ForInStep.yield ok) else pure (ForInStep.yield r)) (fun ok s₃ =>
      if ok = true then wpAny (model prog w) A (eval elt (cenv C)) (fun y s₄ => GcEnd h₀ L m { s₂ with heap := h, toks := tk } C oC D ys nx own (J (i + 1) (ys ++ [y])) s₄) E' s₃
      else GcEnd h₀ L m { s₂ with heap := h, toks := tk } C oC D ys nx own (J (i + 1) ys) s₃) E' { s₂ with heap := h, toks := tk }
theorem gc_block {elt target iter : PySem.Expr} {ifs : List PySem.Expr} {scope : Scope} {cl : List (Str × Addr)} {pos : Pos} {s₂ : Shared} {I : Addr} {fp wr : List Addr} {n : Nat} {St : Nat → Heap → Prop} {PP : Nat → (Str → Option Value) → Prop}
    {news : List (Addr × Obj)} {J : Nat → List Value → List (Addr × Obj) → Prop} {RR : Value → Addr → Result → Shared → Prop}
    (adv : Adv prog w A h₀ L m target (fun C => compEnvC scope cl C env) I fp wr n St PP) (sub : ∀ b ∈ wr, b ∈ fp) (frame : ∀ i h h', St i h → (∀ b ∈ fp, ∀ o, h.get? b = some o → h'.get? b = some o) → St i h')
    (hIo : ∀ i h, St i h → ∀ b ∈ wr, ∃ o, h.get? b = some o)
    (fdone : ∀ (s : Shared) (Q : Option Value → Shared → Prop) (E : Value → Shared → Prop), St n s.heap → (∀ h' tk, (∀ b o, b ∉ wr → s.heap.get? b = some o → h'.get? b = some o) → Q none { s with heap := h', toks := tk }) → wpAny (model prog w) A (pyNext (.ref I)) Q E s)
    (self : ∀ (s : Shared) (Q : Value → Shared → Prop) (E : Value → Shared → Prop), St 0 s.heap → Q (.ref I) s → wpAny (model prog w) A (pyIter (.ref I)) Q E s)
    (hsz : n ≤ sizeLine) (hcell : ∀ y ∈ scope.names, y.2 ≠ .cell) (hkind : scope.kind = .function)
    (hst : St 0 s₂.heap) (hfp : ∀ b ∈ fp, b < s₂.heap.objs.size) (hLf : L ∉ fp) (hwr : ∀ b ∈ wr, h₀.get? b = none) (hnw : ∀ p ∈ news, p.1 ∉ wr)
    (F : Fr h₀ L s₂.heap m) (N : News h₀ L s₂.heap news) (hj : J 0 [] news)
    (turn : GcTurn prog w A h₀ L m elt ifs (fun C => compEnvC scope cl C env) PP J n s₂)
    (hRR : ∀ D C h tk m' ys nx, Fr h₀ L h m → News h₀ L h ((D, lst ys) :: nx) → (∀ p ∈ nx, p.1 ≠ D) → (∀ p ∈ news, p.1 < D) → h.Ns C m' → h₀.get? C = none → h₀.get? D = none → C ≠ L → D ≠ L → C ≠ D → (∀ p ∈ nx, p.1 ≠ C) → J n ys nx → RR (.ref D) C (.ok .next) { s₂ with heap := h, toks := tk }) :
    wpAny (model prog w) A (newList []) (fun acc s₃ => wpAny (model prog w) A (newFunctionEnv scope env.globals cl [] env.qual none .none (some env)) (fun cenv s₄ =>
      codeAny (model prog w) A (.compStart (.ListComp elt [⟨target, iter, ifs, 0⟩] scope pos) 0 (.ref I) acc { cenv with scope := relabel scope env }) (RR acc cenv.locals) s₄) E s₃) E s₂ := by
  refine wpAny_newObj_type (wpAny_newFunctionEnv hcell (by intro y hy; simp at hy) (fun h₁ hns₁ hsb₁ => ?_) hkind)
  dsimp only at hns₁ hsb₁ ⊢
  generalize hH2 : s₂.heap.push { cls := .type "list", dict := none, data := .seq ([] : List Value).toArray } = H2 at hns₁ hsb₁ ⊢
  have hC : H2.objs.size = s₂.heap.objs.size + 1 := by rw [← hH2, Heap.size_push]
  have hDC : s₂.heap.objs.size ≠ H2.objs.size := by rw [hC]; exact Nat.ne_of_lt (Nat.lt_succ_self _)
  have below : ∀ b, b < s₂.heap.objs.size → b ≠ H2.objs.size ∧ b ≠ s₂.heap.objs.size := fun b hb => ⟨by rw [hC]; exact Nat.ne_of_lt (Nat.lt_succ_of_lt hb), Nat.ne_of_lt hb⟩
  have hDf : s₂.heap.objs.size ∉ fp := fun hm => Nat.lt_irrefl _ (hfp _ hm)
  have hCf : H2.objs.size ∉ fp := fun hm => by have := hfp _ hm; rw [hC] at this; exact Nat.lt_irrefl _ (Nat.lt_of_succ_lt this)
  have hLw : L ∉ wr := fun h => hLf (sub _ h)
  have hDw : s₂.heap.objs.size ∉ wr := fun h => hDf (sub _ h)
  have hCw : H2.objs.size ∉ wr := fun h => hCf (sub _ h)
  have oldw : ∀ b o, h₀.get? b = some o → b ∉ wr := fun b o e hb => by rw [hwr b hb] at e; cases e
  have old : ∀ b o, s₂.heap.get? b = some o → h₁.get? b = some o := fun b o e => hsb₁.extBut b o (below b (Heap.lt_size e)).1 (Heap.get?_push_of_some _ (hH2 ▸ Heap.get?_push_of_some _ e))
  have hacc : h₁.get? s₂.heap.objs.size = some (lst []) := hsb₁.extBut _ _ hDC (Heap.get?_push_of_some _ (hH2 ▸ Heap.get?_push_size _ rfl))
  have hst₁ : St 0 h₁ := frame _ _ _ hst fun b _ o e => old b o e
  have fresh₀ : ∀ a, s₂.heap.objs.size ≤ a → h₀.get? a = none := fun a ha => by
    cases e : h₀.get? a with
    | none => rfl
    | some o' => exact absurd (Heap.lt_size (F.keep a o' e)) (Nat.not_lt.mpr ha)
  have hD₀ : h₀.get? s₂.heap.objs.size = none := fresh₀ _ (Nat.le_refl _)
  have hC₀ : h₀.get? H2.objs.size = none := fresh₀ _ (by rw [hC]; exact Nat.le_succ _)
  have hLlt : L < s₂.heap.objs.size := F.ns.lt
  have hDL : s₂.heap.objs.size ≠ L := Ne.symm (below L hLlt).2
  have hCL : H2.objs.size ≠ L := Ne.symm (below L hLlt).1
  have offN : ∀ p ∈ news, p.1 ≠ H2.objs.size ∧ p.1 ≠ s₂.heap.objs.size := fun p hp => below _ (Heap.lt_size (N p hp).1)
  have frw : ∀ {h h' : Heap}, Fr h₀ L h m → (∀ b o, b ∉ wr → h.get? b = some o → h'.get? b = some o) → Fr h₀ L h' m := fun F hk => ⟨F.ns.at' fun o e => hk L o hLw e, fun b o e => hk b o (oldw b o e) (F.keep b o e), F.above⟩
  have loop : ∀ s₃ : Shared, s₃ = { s₂ with heap := h₁, toks := s₂.toks + ([] : List (Str × Value)).length } →
      codeAny (model prog w) A (.compLoop (.ListComp elt [⟨target, iter, ifs, 0⟩] scope pos) 0 (.ref I) (.ref s₂.heap.objs.size) (compEnvC scope cl H2.objs.size env))
        (RR (.ref s₂.heap.objs.size) H2.objs.size) s₃ := by
    rintro s₃ rfl
    refine gc_loop
      (fun k s' => ∃ h' tk i ys m' nx, s' = { s₂ with heap := h', toks := tk } ∧ i ≤ n ∧ k = n + 1 - i ∧ ys.length ≤ i ∧ St i h' ∧ Fr h₀ L h' m ∧ h'.Ns H2.objs.size m' ∧ News h₀ L h' ((s₂.heap.objs.size, lst ys) :: nx) ∧ (∀ p ∈ nx, p.1 ≠ H2.objs.size ∧ p.1 ≠ s₂.heap.objs.size ∧ p.1 ∉ wr) ∧ J i ys nx) ?_ (n + 1)
      ⟨h₁, _, 0, [], _, news, rfl, Nat.zero_le _, rfl, Nat.le_refl _, hst₁, F.keeps old, hns₁, fun p hp => ?_, fun p hp => ⟨(offN p hp).1, (offN p hp).2, hnw p hp⟩, hj⟩
    · rintro k s' ⟨h', tk, i, ys, m', nx, rfl, hi, rfl, hyl, hst', F', hn', N', hoff, hJ⟩
      by_cases hlt : i < n
      · refine adv i _ H2.objs.size m' _ _ _ _ _ _ hlt hst' hCf F' hn' N' (fun p hp => ?_) hC₀ hCL fun m₂ h₇ tk₇ hPP hst₇ F₇ hn₇ N₇' => ?_
        · rcases List.mem_cons.mp hp with rfl | hp
          · exact ⟨hDC, hDw⟩
          · exact ⟨(hoff p hp).1, (hoff p hp).2.2⟩
        obtain ⟨oC, heC, hoC⟩ := ns_obj hn₇
        have Nown : News h₀ L h₇ (ownOf h₀ fp h₇) := news_ownOf hLf
        have N₇ : News h₀ L h₇ ((H2.objs.size, oC) :: (s₂.heap.objs.size, lst ys) :: (nx ++ ownOf h₀ fp h₇)) := fun p hp => by
          rcases List.mem_cons.mp hp with rfl | hp
          · exact ⟨heC, hCL, hC₀⟩
          · rcases List.mem_cons.mp hp with rfl | hp
            · exact N₇' _ (List.Mem.head _)
            · rcases List.mem_append.mp hp with hp | hp
              · exact N₇' p (List.Mem.tail _ hp)
              · exact Nown p hp
        have wown : ∀ b ∈ wr, ∃ o, (b, o) ∈ ownOf h₀ fp h₇ := fun b hb => by
          obtain ⟨o, ho⟩ := hIo _ _ hst₇ b hb
          exact ⟨o, mem_ownOf (sub b hb) (hwr b hb) ho⟩
        have stOf : ∀ {h₄ nx'}, Fr h₀ L h₄ m → News h₀ L h₄ ((H2.objs.size, oC) :: (s₂.heap.objs.size, lst ys) :: (nx' ++ ownOf h₀ fp h₇)) → St (i + 1) h₄ := fun {h₄ nx'} F₄ N₄ => frame _ _ _ hst₇ fun b hb o e => by
          cases hq : h₀.get? b with
          | some o' =>
            have e1 := F₇.keep b o' hq
            rw [e] at e1
            cases e1
            exact F₄.keep b o hq
          | none => exact (N₄ (b, o) (List.mem_cons_of_mem _ (List.mem_cons_of_mem _ (List.mem_append.mpr (.inr (mem_ownOf hb hq e)))))).1
        have offOf : ∀ {nx' : List (Addr × Obj)}, (∀ p ∈ nx', (∃ q ∈ nx, q.1 = p.1) ∨ ∀ q ∈ (H2.objs.size, oC) :: (s₂.heap.objs.size, lst ys) :: (nx ++ ownOf h₀ fp h₇), q.1 < p.1) → ∀ p ∈ nx', p.1 ≠ H2.objs.size ∧ p.1 ≠ s₂.heap.objs.size ∧ p.1 ∉ wr := fun {nx'} hg p hp => by
          rcases hg p hp with ⟨q, hq, e⟩ | hlt
          · rw [← e]; exact hoff q hq
          · refine ⟨Nat.ne_of_gt (hlt _ (List.Mem.head _)), Nat.ne_of_gt (hlt _ (List.Mem.tail _ (List.Mem.head _))), fun hb => ?_⟩
            obtain ⟨o, ho⟩ := wown _ hb
            exact Nat.lt_irrefl p.1 (hlt (p.1, o) (List.Mem.tail _ (List.Mem.tail _ (List.mem_append.mpr (.inr ho)))))
        refine wpAny_mono (turn i ys nx H2.objs.size oC s₂.heap.objs.size m₂ (ownOf h₀ fp h₇) h₇ tk₇ _ hlt hPP hJ hoC F₇ N₇) (fun ok s₃ q => ?_) fun _ _ e => e
        cases ok with
        | false =>
          simp only [Bool.false_eq_true, if_false] at q ⊢
          obtain ⟨h₄, tk₄, nx', rfl, F₄, N₄, hg, hJ₄⟩ := q
          have zC := (N₄ (H2.objs.size, oC) List.mem_cons_self).1
          refine ⟨n + 1 - (i + 1), s1 ‹_›, h₄, tk₄, i + 1, ys, _, nx', rfl, hlt, rfl, Nat.le_succ_of_le hyl, stOf F₄ N₄, F₄, hoC.ns zC, fun p hp => ?_, offOf hg, hJ₄⟩
          rcases List.mem_cons.mp hp with rfl | hp
          · exact N₄ _ (List.Mem.tail _ (List.Mem.head _))
          · exact N₄ p (List.Mem.tail _ (List.Mem.tail _ (List.mem_append.mpr (.inl hp))))
        | true =>
          simp only [if_true] at q ⊢
          refine wpAny_mono q (fun y s₄ h₄ => ?_) fun _ _ e => e
          obtain ⟨h₄, tk₄, nx', rfl, F₄, N₄, hg, hJ₄⟩ := h₄
          have zC := (N₄ (H2.objs.size, oC) List.mem_cons_self).1
          have zD := (N₄ (s₂.heap.objs.size, lst ys) (List.mem_cons_of_mem _ List.mem_cons_self)).1
          have hst₄ : St (i + 1) h₄ := stOf F₄ N₄
          have hoff' := offOf hg
          refine append_at (hsz := by show ys.toArray.size ≤ sizeLine; rw [List.size_toArray]; exact Nat.le_trans hyl (Nat.le_trans hi hsz)) zD fun h₅ hs₅ hD₅ => ?_
          refine ⟨n + 1 - (i + 1), s1 ‹_›, h₅, tk₄, i + 1, ys ++ [y], _, nx', rfl, hlt, rfl, by rw [List.length_append, List.length_singleton]; exact Nat.succ_le_succ hyl, frame _ _ _ hst₄ fun b hb o e => hs₅.extBut b o (fun q => hDf (q ▸ hb)) e, F₄.change hs₅ hDL hD₀,
            (hoC.ns zC).sameBut hs₅ (Ne.symm hDC), fun p hp => ?_, hoff', hJ₄⟩
          rcases List.mem_cons.mp hp with rfl | hp
          · exact ⟨hD₅.trans (congrArg some (lst_snoc ys y)), hDL, hD₀⟩
          · have z := N₄ p (List.mem_cons_of_mem _ (List.mem_cons_of_mem _ (List.mem_append.mpr (.inl hp))))
            exact ⟨hs₅.extBut _ _ (hoff' p hp).2.1 z.1, z.2⟩
      · obtain rfl : i = n := Nat.le_antisymm hi (Nat.not_lt.mp hlt)
        refine fdone _ _ _ hst' fun h₂ tk₂ hk₂ => ?_
        refine hRR _ _ h₂ tk₂ _ ys nx (frw F' hk₂) (fun p hp => ?_) (fun p hp => (hoff p hp).2.1) (fun p hp => Heap.lt_size (N p hp).1) (hn'.at' fun o e => hk₂ _ o hCw e) hC₀ hD₀ hCL hDL (Ne.symm hDC) (fun p hp => (hoff p hp).1) hJ
        rcases List.mem_cons.mp hp with rfl | hp
        · have z := N' _ (List.Mem.head _)
          exact ⟨hk₂ _ _ hDw z.1, z.2⟩
        · have z := N' p (List.Mem.tail _ hp)
          exact ⟨hk₂ _ _ (hoff p hp).2.2 z.1, z.2⟩
    · rcases List.mem_cons.mp hp with rfl | hp
      · exact ⟨hacc, hDL, hD₀⟩
      · exact ⟨old _ _ (N p hp).1, (N p hp).2⟩
  exact codeAny_compStart_list (loop _ rfl) (self _ _ _ hst₁ (loop _ rfl))

noncomputable def GcAt (prog : Program) (w : World) (A : Around) (h₀ : Heap) (L : Addr) (m : Str → Option Value) (env : Env) (elt target : PySem.Expr) (ifs : List PySem.Expr) (scope : Scope) (cl : List (Str × Addr)) (Fin : Shared → Addr → List Value → List (Addr × Obj) → Prop) (it : Value) (s₂ : Shared) : Prop :=
  ∃ (I : Addr) (fp wr : List Addr) (n : Nat) (St : Nat → Heap → Prop) (PP : Nat → (Str → Option Value) → Prop) (news : List (Addr × Obj)) (J : Nat → List Value → List (Addr × Obj) → Prop),
    it = .ref I ∧ Adv prog w A h₀ L m target (fun C => compEnvC scope cl C env) I fp wr n St PP ∧ (∀ b ∈ wr, b ∈ fp) ∧ (∀ i h h', St i h → (∀ b ∈ fp, ∀ o, h.get? b = some o → h'.get? b = some o) → St i h') ∧
    (∀ i h, St i h → ∀ b ∈ wr, ∃ o, h.get? b = some o) ∧
    (∀ (s : Shared) (Q : Option Value → Shared → Prop) (E : Value → Shared → Prop), St n s.heap → (∀ h' tk, (∀ b o, b ∉ wr → s.heap.get? b = some o → h'.get? b = some o) → Q none { s with heap := h', toks := tk }) → wpAny (model prog w) A (pyNext (.ref I)) Q E s) ∧
    (∀ (s : Shared) (Q : Value → Shared → Prop) (E : Value → Shared → Prop), St 0 s.heap → Q (.ref I) s → wpAny (model prog w) A (pyIter (.ref I)) Q E s) ∧
    n ≤ sizeLine ∧ St 0 s₂.heap ∧ (∀ b ∈ fp, b < s₂.heap.objs.size) ∧ L ∉ fp ∧ (∀ b ∈ wr, h₀.get? b = none) ∧ (∀ p ∈ news, p.1 ∉ wr) ∧ Fr h₀ L s₂.heap m ∧ News h₀ L s₂.heap news ∧ J 0 [] news ∧
    GcTurn prog w A h₀ L m elt ifs (fun C => compEnvC scope cl C env) PP J n s₂ ∧
    (∀ D ys nx, (∀ p ∈ nx, p.1 ≠ D) → (∀ p ∈ news, p.1 < D) → J n ys nx → Fin s₂ D ys nx)
noncomputable def GFinE (h₀ : Heap) (L : Addr) (m : Str → Option Value) (Q : Value → Shared → Prop) (s₂ : Shared) (D : Addr) (ys : List Value) (nx : List (Addr × Obj)) : Prop := ∀ h tk, Fr h₀ L h m → News h₀ L h ((D, lst ys) :: nx) → Q (.ref D) { s₂ with heap := h, toks := tk }
noncomputable def GFinA (h₀ : Heap) (L : Addr) (m : Str → Option Value) (y : Str) (Q : Flow → Shared → Prop) (s₂ : Shared) (D : Addr) (ys : List Value) (nx : List (Addr × Obj)) : Prop := ∀ h tk, Fr h₀ L h (fun z => if z = y then some (.ref D) else m z) → News h₀ L h ((D, lst ys) :: nx) → Q .next { s₂ with heap := h, toks := tk }
theorem gc_eval {elt target iter : PySem.Expr} {ifs : List PySem.Expr} {scope : Scope} {cl : List (Str × Addr)} {pos : Pos} {Q : Value → Shared → Prop} (F₀ : Fr h₀ L s.heap m)
    (hclos : closureFor scope env = pure cl) (hcell : ∀ y ∈ scope.names, y.2 ≠ .cell) (hkind : scope.kind = .function)
    (hnames : ∀ y ∈ scope.names, y.2 = .local → scope.names.lookup y.1 = some .local)
    (h : wpAny (model prog w) A (eval iter env) (fun xv s₁ => wpAny (model prog w) A (pyIter xv) (GcAt prog w A h₀ L m env elt target ifs scope cl (GFinE h₀ L m Q)) E s₁) E s)
    (hs : ∀ x, foldedSetIterable iter env x = pure x := by intro _; rfl) :
    wpAny (model prog w) A (eval (.ListComp elt [⟨target, iter, ifs, 0⟩] scope pos) env) Q E s := by
  rw [eval_ListComp]
  refine wpAny_comprehension_free (use := none) rfl hs hclos hkind hnames (wpAny_mono h (fun xv s₁ h₁ => wpAny_mono h₁ (fun it s₂ h₂ => ?_) fun _ _ e => e) fun _ _ e => e)
  obtain ⟨I, fp, wr, n, St, PP, news, J, rfl, adv, sub, frame, hIo, fdone, self, hsz, hst, hfp, hLf, hwr, hnw, F, N, hj, turn, fin⟩ := h₂
  refine gc_block adv sub frame hIo fdone self hsz hcell hkind hst hfp hLf hwr hnw F N hj turn ?_
  intro D C h tk m' ys nx F' N' oD o1 hn hC₀ hD₀ hCL hDL hCD offC fj
  refine ⟨m', hn, fun h'' hs'' => fin D ys nx oD o1 fj h'' tk (F'.change hs'' hCL hC₀) (fun p hp => ?_)⟩
  refine ⟨hs''.extBut _ _ ?_ (N' p hp).1, (N' p hp).2⟩
  rcases List.mem_cons.mp hp with rfl | hp
  · exact Ne.symm hCD
  · exact offC p hp
theorem gc_assign {elt target iter : PySem.Expr} {ifs : List PySem.Expr} {y : Str} {py : Pos} {scope : Scope} {cl : List (Str × Addr)} {pos spos : Pos} {Q : Flow → Shared → Prop} (F₀ : Fr h₀ L s.heap m) (hLe : env.locals = L)
    (hsw : swapsWith (.ListComp elt [⟨target, iter, ifs, 0⟩] scope pos) (some (.Name y py)) spos.line env = pure true)
    (hclos : closureFor scope env = pure cl) (hcell : ∀ z ∈ scope.names, z.2 ≠ .cell) (hkind : scope.kind = .function)
    (hnames : ∀ z ∈ scope.names, z.2 = .local → scope.names.lookup z.1 = some .local)
    (hy : env.kindOf y = some .local) (hp : (env.scope.kind == .class || (env.scope.kind == .module && env.locals != env.globals)) = false)
    (h : wpAny (model prog w) A (eval iter env) (fun xv s₁ => wpAny (model prog w) A (pyIter xv) (GcAt prog w A h₀ L m env elt target ifs scope cl (GFinA h₀ L m y Q)) E s₁) E s)
    (hs : ∀ x, foldedSetIterable iter env x = pure x := by intro _; rfl) :
    wpAny (model prog w) A (exec (.Assign [.Name y py] (.ListComp elt [⟨target, iter, ifs, 0⟩] scope pos) spos) env) Q E s := by
  subst hLe
  rw [exec_Assign_Name_used _ _ _ _ hsw]
  refine wpAny_bind (wpAny_standAt (wpAny_bind ?_))
  show wpAny _ A (do let _ ← comprehension (.ListComp elt [⟨target, iter, ifs, 0⟩] scope pos) scope env _ (newList []) false (eval iter env) (some (assign (.Name y py) env))) _ _ s
  refine wpAny_bind (wpAny_mono (wpAny_comprehension_free (use := some (assign (.Name y py) env)) (Q := fun _ s' => Q .next s') rfl hs hclos hkind hnames
    (wpAny_mono h (fun xv s₁ h₁ => wpAny_mono h₁ (fun it s₂ h₂ => ?_) fun _ _ e => e) fun _ _ e => e)) (fun _ s' hq => wpAny_pure (wpAny_pure hq)) fun _ _ e => e)
  obtain ⟨I, fp, wr, n, St, PP, news, J, rfl, adv, sub, frame, hIo, fdone, self, hsz, hst, hfp, hLf, hwr, hnw, F, N, hj, turn, fin⟩ := h₂
  refine gc_block adv sub frame hIo fdone self hsz hcell hkind hst hfp hLf hwr hnw F N hj turn ?_
  intro D C h' tk m' ys nx F' N' oD o1 hn hC₀ hD₀ hCL hDL hCD offC fj
  show wpAny _ A (assign (.Name y py) env (.ref D)) _ _ _
  refine wpAny_assign_Name (wpAny_storeName_local hy F'.ns (fun h₂ hn₂ hs₂ => ?_) hp)
  have hL₀ : h₀.get? env.locals = none := Heap.get?_none_of_le F'.above
  have F₂ : Fr h₀ env.locals h₂ (fun z => if z = y then some (.ref D) else m z) := ⟨hn₂, fun b o e => hs₂.extBut b o (fun q => by rw [q, hL₀] at e; cases e) (F'.keep b o e), F'.above⟩
  refine ⟨m', hn.sameBut hs₂ hCL, fun h'' hs'' => fin D ys nx oD o1 fj h'' _ (F₂.change hs'' hCL hC₀) (fun p hp => ?_)⟩
  have z : h₂.get? p.1 = some p.2 := hs₂.extBut _ _ (N' p hp).2.1 (N' p hp).1
  refine ⟨hs''.extBut _ _ ?_ z, (N' p hp).2⟩
  rcases List.mem_cons.mp hp with rfl | hp
  · exact Ne.symm hCD
  · exact offC p hp

theorem adv_name {x : Str} {px : Pos} {scope : Scope} {cl : List (Str × Addr)} {I : Addr} {fp wr : List Addr} {n : Nat} {P : Nat → Value → Prop} {St : Nat → Heap → Prop} (W : Walks prog w A I fp wr n P St)
    (hkind : scope.kind = .function) (hx : scope.names.lookup x = some .local) (hLf : L ∉ fp) (hwr : ∀ b ∈ wr, h₀.get? b = none) :
    Adv prog w A h₀ L m (.Name x px) (fun C => compEnvC scope cl C env) I fp wr n St (fun i m₂ => ∃ v, P i v ∧ m₂ x = some v) := by
  intro i s C m' led R₀ K E₁ E₂ E₃ hlt hst hCf F hn N off hC₀ hCL next
  have hLw : L ∉ wr := fun h => hLf (W.sub _ h)
  have hCw : C ∉ wr := fun h => hCf (W.sub _ h)
  have oldw : ∀ b o, h₀.get? b = some o → b ∉ wr := fun b o e hb => by rw [hwr b hb] at e; cases e
  refine W.item i _ _ _ hlt hst fun v h₂ tk₂ hPv hst₂ hk₂ => ?_
  refine wpAny_of_eq (show letOwnedTupleGo (.Name x px) (.ref I) v = pure () from rfl) ?_
  refine wpAny_assign_Name (wpAny_storeName_local (lookup_relabel_local hx) (hn.at' fun o e => hk₂ _ o hCw e) (fun h₃ hn₃ hs₃ => ?_) (by simp [compEnvC, relabel, hkind]))
  have F₂ : Fr h₀ L h₂ m := ⟨F.ns.at' fun o e => hk₂ L o hLw e, fun b o e => hk₂ b o (oldw b o e) (F.keep b o e), F.above⟩
  refine next _ h₃ _ ⟨v, hPv, by simp⟩ (W.frame _ _ _ hst₂ fun b hb o e => hs₃.extBut b o (fun q => hCf ((show b = C from q) ▸ hb)) e) (F₂.change hs₃ hCL hC₀) hn₃ fun p hp => ?_
  exact ⟨hs₃.extBut _ _ (off p hp).1 (hk₂ _ _ (off p hp).2 (N p hp).1), (N p hp).2⟩
theorem adv_pair {x x₂ : Str} {px px₂ tp : Pos} {tk} {scope : Scope} {cl : List (Str × Addr)} {I : Addr} {fp wr : List Addr} {n : Nat} {Pt : Nat → Array Value → Prop} {St : Nat → Heap → Prop} {Mid : Nat → Addr → Heap → Prop} {P2 : Nat → Value → Value → Prop}
    (W : WalksT prog w A I fp wr n Pt St Mid) (hP2 : ∀ i vals, Pt i vals → ∃ v0 v1, vals = #[v0, v1] ∧ P2 i v0 v1)
    (hkind : scope.kind = .function) (hx : scope.names.lookup x = some .local) (hx₂ : scope.names.lookup x₂ = some .local) (hxx : x ≠ x₂) (hh : A.handled = none) (hLf : L ∉ fp) (hwr : ∀ b ∈ wr, h₀.get? b = none) :
    Adv prog w A h₀ L m (.Tuple [.Name x px, .Name x₂ px₂] tk tp) (fun C => compEnvC scope cl C env) I fp wr n St (fun i m₂ => ∃ v0 v1, P2 i v0 v1 ∧ m₂ x = some v0 ∧ m₂ x₂ = some v1) := by
  intro i s C m' led R₀ K E₁ E₂ E₃ hlt hst hCf F hn N off hC₀ hCL next
  have hLw : L ∉ wr := fun h => hLf (W.sub _ h)
  have hCw : C ∉ wr := fun h => hCf (W.sub _ h)
  have oldw : ∀ b o, h₀.get? b = some o → b ∉ wr := fun b o e hb => by rw [hwr b hb] at e; cases e
  refine W.item i _ _ _ hlt hst fun T vals h₂ tk₂ hPv hTnew ht hMid hk₂ => ?_
  obtain ⟨v0, v1, rfl, hp2⟩ := hP2 i vals hPv
  refine W.go _ _ _ i T _ _ _ hMid fun h₃ hst₃ hk₃ => ?_
  have hTw := W.apart i T h₂ hMid
  have ht₃ : IsTup h₃ T #[v0, v1] := by
    obtain ⟨ot, e1, e2, nt, e3⟩ := ht
    exact ⟨ot, hk₃ _ _ hTw e1, e2, nt, e3⟩
  refine assign_Tuple_tuple hh ht₃ rfl rfl fun h₅ he => ?_
  have he' : ∀ b o, h₃.get? b = some o → h₅.get? b = some o := fun b o e => he b o (Nat.ne_of_lt (Heap.lt_size e)) e
  have to5 : ∀ b o, b ∉ wr → s.heap.get? b = some o → h₅.get? b = some o := fun b o hb e => he' b o (hk₃ b o hb (hk₂ b o hb e))
  have F₅ : Fr h₀ L h₅ m := ⟨F.ns.at' fun o e => to5 L o hLw e, fun b o e => to5 b o (oldw b o e) (F.keep b o e), F.above⟩
  have hst₅ : St (i + 1) h₅ := W.frame _ _ _ hst₃ fun b _ o e => he' b o e
  refine assignInOrder_cons (wpAny_assign_Name (wpAny_storeName_local (lookup_relabel_local hx) (hn.at' fun o e => to5 _ o hCw e) (fun h₆ hn₆ hs₆ => ?_) (by simp [compEnvC, relabel, hkind])))
  refine assignInOrder_cons (wpAny_assign_Name (wpAny_storeName_local (lookup_relabel_local hx₂) hn₆ (fun h₇ hn₇ hs₇ => ?_) (by simp [compEnvC, relabel, hkind])))
  refine assignInOrder_nil ?_
  have to7 : ∀ b o, b ≠ C → h₅.get? b = some o → h₇.get? b = some o := fun b o hb e => hs₇.extBut b o hb (hs₆.extBut b o hb e)
  have hst₇ : St (i + 1) h₇ := W.frame _ _ _ hst₅ fun b hb o e => to7 b o (fun q => hCf (by rw [← q]; exact hb)) e
  refine next _ h₇ _ ⟨v0, v1, hp2, by simp [hxx], by simp⟩ hst₇ ((F₅.change hs₆ hCL hC₀).change hs₇ hCL hC₀) hn₇ fun p hp => ?_
  exact ⟨to7 _ _ (off p hp).1 (to5 _ _ (off p hp).2 (N p hp).1), (N p hp).2⟩
/-- a pair's names over a list of tuples -/
theorem adv_tups {x x₂ : Str} {px px₂ tp : Pos} {tk} {scope : Scope} {cl : List (Str × Addr)} {I l : Addr} {items : Array Value} {tups : List (Addr × Obj)} {P2 : Nat → Value → Value → Prop} (hne : l ≠ I) (hnI : ∀ p ∈ tups, p.1 ≠ I)
    (hP2 : ∀ (i : Nat) v, items[i]? = some v → ∃ T v0 v1 k, v = .ref T ∧ (T, ({ cls := .type "tuple", data := .seq #[v0, v1] k } : Obj)) ∈ tups ∧ P2 i v0 v1)
    (hkind : scope.kind = .function) (hx : scope.names.lookup x = some .local) (hx₂ : scope.names.lookup x₂ = some .local) (hxx : x ≠ x₂) (hh : A.handled = none) (hLI : L ≠ I) (hI : h₀.get? I = none) :
    Adv prog w A h₀ L m (.Tuple [.Name x px, .Name x₂ px₂] tk tp) (fun C => compEnvC scope cl C env) I (I :: l :: tups.map (·.1)) [I] items.size (fun i h => (h.IsListIter I l i ∧ h.IsList l items) ∧ ∀ p ∈ tups, h.get? p.1 = some p.2) (fun i m₂ => ∃ v0 v1, P2 i v0 v1 ∧ m₂ x = some v0 ∧ m₂ x₂ = some v1) := by
  intro i s C m' led R₀ K E₁ E₂ E₃ hlt hst hCf F hn N off hC₀ hCL next
  obtain ⟨hst, htup⟩ := hst
  have W := Walks.list (prog := prog) (w := w) hh I l hne items
  have hCI : C ≠ I := fun e => hCf (e ▸ List.Mem.head _)
  refine W.item i _ _ _ hlt hst fun v h₂ tk₂ hPv hst₂ hk₂ => ?_
  obtain ⟨T, v0, v1, k, rfl, hT, hp2⟩ := hP2 i v hPv
  have htup₂ : ∀ p ∈ tups, h₂.get? p.1 = some p.2 := fun p hp => hk₂ _ _ (by simpa using hnI p hp) (htup p hp)
  have ht : IsTup h₂ T #[v0, v1] := ⟨_, htup₂ _ hT, rfl, k, rfl⟩
  refine wpAny_letOwnedTupleGo_listiter hst₂.1 ?_
  refine assign_Tuple_tuple hh ht rfl rfl fun h₅ he => ?_
  have he' : ∀ b o, h₂.get? b = some o → h₅.get? b = some o := fun b o e => he b o (Nat.ne_of_lt (Heap.lt_size e)) e
  have to5 : ∀ b o, b ∉ [I] → s.heap.get? b = some o → h₅.get? b = some o := fun b o hb e => he' b o (hk₂ b o hb e)
  have F₅ : Fr h₀ L h₅ m := ⟨F.ns.at' fun o e => to5 L o (by simpa using hLI) e, fun b o e => to5 b o (fun hb => by rw [List.mem_singleton.mp hb, hI] at e; cases e) (F.keep b o e), F.above⟩
  refine assignInOrder_cons (wpAny_assign_Name (wpAny_storeName_local (lookup_relabel_local hx) (hn.at' fun o e => to5 _ o (by simpa using hCI) e) (fun h₆ hn₆ hs₆ => ?_) (by simp [compEnvC, relabel, hkind])))
  refine assignInOrder_cons (wpAny_assign_Name (wpAny_storeName_local (lookup_relabel_local hx₂) hn₆ (fun h₇ hn₇ hs₇ => ?_) (by simp [compEnvC, relabel, hkind])))
  refine assignInOrder_nil ?_
  have to7 : ∀ b o, b ≠ C → h₂.get? b = some o → h₇.get? b = some o := fun b o hb e => hs₇.extBut b o hb (hs₆.extBut b o hb (he' b o e))
  have hCfp : ∀ b ∈ I :: l :: tups.map (·.1), b ≠ C := fun b hb e => hCf (e ▸ hb)
  have hst₇ : (h₇.IsListIter I l (i + 1) ∧ h₇.IsList l items) ∧ ∀ p ∈ tups, h₇.get? p.1 = some p.2 := by
    refine ⟨W.frame _ _ _ hst₂ fun b hb o e => to7 b o (hCfp b ?_) e, fun p hp => to7 _ _ (hCfp _ (List.Mem.tail _ (List.Mem.tail _ (List.mem_map.mpr ⟨p, hp, rfl⟩)))) (htup₂ p hp)⟩
    rcases List.mem_cons.mp hb with rfl | hb
    · exact List.Mem.head _
    · rw [List.mem_singleton.mp hb]; exact List.Mem.tail _ (List.Mem.head _)
  refine next _ h₇ _ ⟨v0, v1, hp2, by simp [hxx], by simp⟩ hst₇ ((F₅.change hs₆ hCL hC₀).change hs₇ hCL hC₀) hn₇ fun p hp => ?_
  exact ⟨to7 _ _ (off p hp).1 (hk₂ _ _ (off p hp).2 (N p hp).1), (N p hp).2⟩
end
end Mine
end
section
namespace Mine
theorem startC0f : True := by
  w_top off
  trivial
end Mine
open PySem PySem.W PyProof.Rows PySem.Calls PyProof.V PySem.Spec
open PyProof.Rows.LCp PyProof.Rows.LCg
namespace Mine
section
variable {prog : Program} {w : World} {A : Around} {E : Value → Shared → Prop} {s : Shared} {h₀ : Heap} {L : Addr} {m : Str → Option Value} {env : Env}
theorem gs_list {elt : PySem.Expr} {ifs : List PySem.Expr} {x : Str} {px : Pos} {scope : Scope} {cl : List (Str × Addr)} {l : Addr} {its : Array Value} {news : List (Addr × Obj)} {Fin : Shared → Addr → List Value → List (Addr × Obj) → Prop} (J : Nat → List Value → List (Addr × Obj) → Prop)
    (hh : A.handled = none) (F : Fr h₀ L s.heap m) (N : News h₀ L s.heap news) (hl : s.heap.IsList l its) (hlL : l ≠ L) (hsz : its.size ≤ sizeLine) (hkind : scope.kind = .function) (hx : scope.names.lookup x = some .local) (hj : J 0 [] news)
    (turn : ∀ s', (∃ h, s' = { s with heap := h }) → GcTurn prog w A h₀ L m elt ifs (fun C => compEnvC scope cl C env) (fun i m₂ => ∃ v, its[i]? = some v ∧ m₂ x = some v) J its.size s')
    (fin : ∀ s', (∃ h, s' = { s with heap := h }) → ∀ D ys nx, (∀ p ∈ nx, p.1 ≠ D) → (∀ p ∈ news, p.1 < D) → J its.size ys nx → Fin s' D ys nx) :
    wpAny (model prog w) A (pyIter (.ref l)) (GcAt prog w A h₀ L m env elt (.Name x px) ifs scope cl Fin) E s := by
  have hlt : l < s.heap.objs.size := by obtain ⟨_, e, _⟩ := hl; exact Heap.lt_size e
  refine wpAny_pyIter_list hl ?_
  have up : ∀ b o, s.heap.get? b = some o → (s.heap.push { cls := .type "list_iterator", data := .fields #[.ref l, .int 0 0] }).get? b = some o := fun b o e => Heap.get?_push_of_some _ e
  have W := Walks.list (prog := prog) (w := w) hh s.heap.objs.size l (Nat.ne_of_lt hlt) its
  have hLf : L ∉ [s.heap.objs.size, l] := fun hm => by
    rcases List.mem_cons.mp hm with e | hm
    · exact absurd F.ns.lt (e ▸ Nat.lt_irrefl _)
    · exact hlL (List.mem_singleton.mp hm).symm
  have hwr : ∀ b ∈ [s.heap.objs.size], h₀.get? b = none := fun b hb => by rw [List.mem_singleton.mp hb]; exact next_is_new F
  refine ⟨_, _, _, _, _, _, news, J, rfl, adv_name W hkind hx hLf hwr, W.sub, W.frame, ?_, W.done, W.self 0, hsz, ⟨⟨_, Heap.get?_push_size _ rfl, rfl, rfl⟩, hl.push _⟩, ?_, hLf, hwr, ?_, F.keeps up, N.grown up, hj, turn _ ⟨_, rfl⟩, fin _ ⟨_, rfl⟩⟩
  · intro i h st b hb
    rw [List.mem_singleton.mp hb]
    obtain ⟨o, e, _⟩ := st.1
    exact ⟨o, e⟩
  · intro b hb
    show b < (s.heap.push _).objs.size
    rw [Heap.size_push]
    rcases List.mem_cons.mp hb with rfl | hb
    · exact Nat.lt_succ_self _
    · rw [List.mem_singleton.mp hb]; exact Nat.lt_succ_of_lt hlt
  · intro p hp hm
    exact absurd (Heap.lt_size (N p hp).1) ((List.mem_singleton.mp hm) ▸ Nat.lt_irrefl _)
theorem gs_range {elt : PySem.Expr} {ifs : List PySem.Expr} {x : Str} {px : Pos} {scope : Scope} {cl : List (Str × Addr)} {r : Addr} {a₀ b₀ : Int} {t₀ u₀ v₀ : Tok} {n : Nat} {news : List (Addr × Obj)} {Fin : Shared → Addr → List Value → List (Addr × Obj) → Prop} (J : Nat → List Value → List (Addr × Obj) → Prop)
    (hh : A.handled = none) (F : Fr h₀ L s.heap m) (N : News h₀ L s.heap news) (hr : IsRange s.heap r a₀ b₀ 1 t₀ u₀ v₀) (hsmall : Builtin.Range.small a₀ b₀ 1 = true) (hn : Builtin.Range.rangeSize a₀ b₀ 1 = (n : Int)) (hsz : n ≤ sizeLine) (hkind : scope.kind = .function) (hx : scope.names.lookup x = some .local) (hj : J 0 [] news)
    (turn : ∀ s', (∃ h, s' = { s with heap := h }) → GcTurn prog w A h₀ L m elt ifs (fun C => compEnvC scope cl C env) (fun i m₂ => ∃ v, (i < n ∧ ∃ t, v = .int (a₀ + (i : Nat) * 1) t) ∧ m₂ x = some v) J n s')
    (fin : ∀ s', (∃ h, s' = { s with heap := h }) → ∀ D ys nx, (∀ p ∈ nx, p.1 ≠ D) → (∀ p ∈ news, p.1 < D) → J n ys nx → Fin s' D ys nx) :
    wpAny (model prog w) A (pyIter (.ref r)) (GcAt prog w A h₀ L m env elt (.Name x px) ifs scope cl Fin) E s := by
  refine wpAny_pyIter_range hr hsmall ?_
  have W : Walks prog w A s.heap.objs.size [s.heap.objs.size] [s.heap.objs.size] n (fun i v => i < n ∧ ∃ t, v = .int (a₀ + (i : Nat) * 1) t)
      (fun i h => IsRangeIter h s.heap.objs.size (a₀ + (i : Nat) * 1) ((n : Int) - (i : Nat)) 1) := (Walks.range hh _ a₀ 1 n).bound
  have hLf : L ∉ [s.heap.objs.size] := fun hm => absurd F.ns.lt ((List.mem_singleton.mp hm) ▸ Nat.lt_irrefl _)
  have hwr : ∀ b ∈ [s.heap.objs.size], h₀.get? b = none := fun b hb => by rw [List.mem_singleton.mp hb]; exact next_is_new F
  refine ⟨_, _, _, _, _, _, news, J, rfl, adv_name W hkind hx hLf hwr, W.sub, W.frame, ?_, W.done, W.self 0, hsz, (by show IsRangeIter _ _ _ _ _; rw [hn]; simpa using Heap.get?_push_size _ rfl), ?_, hLf, hwr, ?_, F.push _, (fun p hp => ⟨Heap.get?_push_of_some _ (N p hp).1, (N p hp).2⟩), hj, turn _ ⟨_, rfl⟩, fin _ ⟨_, rfl⟩⟩
  · intro i h st b hb
    rw [List.mem_singleton.mp hb]
    exact ⟨_, st⟩
  · intro b hb
    show b < (s.heap.push _).objs.size
    rw [Heap.size_push, List.mem_singleton.mp hb]
    exact Nat.lt_succ_self _
  · intro p hp hm
    exact absurd (Heap.lt_size (N p hp).1) ((List.mem_singleton.mp hm) ▸ Nat.lt_irrefl _)
theorem gs_zip {elt : PySem.Expr} {ifs : List PySem.Expr} {x x₂ : Str} {px px₂ tp : Pos} {tk} {scope : Scope} {cl : List (Str × Addr)} {Fin : Shared → Addr → List Value → List (Addr × Obj) → Prop} {l1 l2 : Addr} {n1 n2 : Nat} {vs₁ vs₂ : List Value} {as bs : List Str} {news : List (Addr × Obj)} (J : Nat → List Value → List (Addr × Obj) → Prop)
    (hh : A.handled = none) (F : Fr h₀ L s.heap m) (N : News h₀ L s.heap news) (m1 : (l1, W.listOf vs₁.toArray n1) ∈ news) (m2 : (l2, W.listOf vs₂.toArray n2) ∈ news) (hA₁ : StrsAre vs₁ as) (hA₂ : StrsAre vs₂ bs) (hsz : min as.length bs.length ≤ sizeLine)
    (hkind : scope.kind = .function) (hx : scope.names.lookup x = some .local) (hx₂ : scope.names.lookup x₂ = some .local) (hxx : x ≠ x₂) (hj : J 0 [] news)
    (turn : ∀ s', (∃ h, s' = { s with heap := h }) → GcTurn prog w A h₀ L m elt ifs (fun C => compEnvC scope cl C env) (fun i m₂ => ∃ v0 v1, (∃ a b ta tb, as[i]? = some a ∧ bs[i]? = some b ∧ v0 = .str a ta ∧ v1 = .str b tb) ∧ m₂ x = some v0 ∧ m₂ x₂ = some v1) J (min as.length bs.length) s')
    (fin : ∀ s', (∃ h, s' = { s with heap := h }) → ∀ D ys nx, (∀ p ∈ nx, p.1 ≠ D) → (∀ p ∈ news, p.1 < D) → J (min as.length bs.length) ys nx → Fin s' D ys nx) :
    wpAny (model prog w) A (call (.type "zip") [.ref l1, .ref l2]) (fun xv s₁ => wpAny (model prog w) A (pyIter xv) (GcAt prog w A h₀ L m env elt (.Tuple [.Name x px, .Name x₂ px₂] tk tp) ifs scope cl Fin) E s₁) E s := by
  have hls1 : s.heap.IsList l1 vs₁.toArray := N.isList m1
  have hls2 : s.heap.IsList l2 vs₂.toArray := N.isList m2
  have a1 : l1 < s.heap.objs.size := Heap.lt_size (N _ m1).1
  have a2 : l2 < s.heap.objs.size := Heap.lt_size (N _ m2).1
  have hLs : L < s.heap.objs.size := F.ns.lt
  have hab : h₀.objs.size ≤ L := F.above
  refine call_zip_2 hls1 hls2 fun h' hz hTI hTO hit1 hit2 hsz' hkeep => ?_
  have F' : Fr h₀ L h' m := ⟨F.ns.keeps hkeep, fun b o e => hkeep b o (F.keep b o e), F.above⟩
  have N' : News h₀ L h' news := fun p hp => ⟨hkeep _ _ (N p hp).1, (N p hp).2⟩
  have W := WalksT.zip2 (prog := prog) (w := w) hh (s.heap.objs.size + 4) (s.heap.objs.size + 2) (s.heap.objs.size + 3) s.heap.objs.size (s.heap.objs.size + 1) l1 l2 (zipApart_new a1 a2) vs₁.toArray vs₂.toArray
  have hst : IsZip h' (s.heap.objs.size + 4) (s.heap.objs.size + 2) (s.heap.objs.size + 3) .none ∧ IsPair h' (s.heap.objs.size + 2) (.ref s.heap.objs.size) (.ref (s.heap.objs.size + 1)) ∧ (∃ a b, IsPair h' (s.heap.objs.size + 3) a b) ∧ h'.IsListIter s.heap.objs.size l1 0 ∧ h'.IsListIter (s.heap.objs.size + 1) l2 0 ∧ h'.IsList l1 vs₁.toArray ∧ h'.IsList l2 vs₂.toArray :=
    ⟨hz, hTI, ⟨_, _, hTO⟩, hit1, hit2, hls1.at fun o e => hkeep l1 o e, hls2.at fun o e => hkeep l2 o e⟩
  have hn : min vs₁.toArray.size vs₂.toArray.size = min as.length bs.length := by simp [hA₁.length, hA₂.length]
  rw [← hn] at hsz turn fin
  have up : ∀ k, L ≠ s.heap.objs.size + k := fun k e => Nat.ne_of_lt (Nat.lt_of_lt_of_le hLs (Nat.le_add_right _ k)) e
  have hLf : L ∉ [s.heap.objs.size + 4, s.heap.objs.size + 2, s.heap.objs.size + 3, s.heap.objs.size, s.heap.objs.size + 1, l1, l2] := by
    intro hm
    simp only [List.mem_cons, List.not_mem_nil, or_false] at hm
    rcases hm with e | e | e | e | e | e | e
    · exact up 4 e
    · exact up 2 e
    · exact up 3 e
    · exact up 0 e
    · exact up 1 e
    · exact (N _ m1).2.1 e.symm
    · exact (N _ m2).2.1 e.symm
  have hwr : ∀ b ∈ [s.heap.objs.size + 4, s.heap.objs.size + 3, s.heap.objs.size, s.heap.objs.size + 1], h₀.get? b = none := by
    intro b hb
    simp only [List.mem_cons, List.not_mem_nil, or_false] at hb
    have nw : ∀ k, h₀.get? (s.heap.objs.size + k) = none := fun k => Heap.get?_none_of_le (Nat.le_trans hab (Nat.le_trans (Nat.le_of_lt hLs) (Nat.le_add_right _ k)))
    rcases hb with rfl | rfl | rfl | rfl
    · exact nw 4
    · exact nw 3
    · exact nw 0
    · exact nw 1
  refine W.self 0 _ _ _ hst ?_
  have hP2 : ∀ (i : Nat) (vals : Array Value), (∃ x y, vs₁.toArray[i]? = some x ∧ vs₂.toArray[i]? = some y ∧ vals = #[x, y]) → ∃ v0 v1, vals = #[v0, v1] ∧ ∃ a b ta tb, as[i]? = some a ∧ bs[i]? = some b ∧ v0 = .str a ta ∧ v1 = .str b tb := by
    rintro i vals ⟨x, y, hx, hy, rfl⟩
    obtain ⟨a, ta, ha, rfl⟩ := strs_get hA₁ (i := i) (v := x) (by simpa using hx)
    obtain ⟨b, tb, hb, rfl⟩ := strs_get hA₂ (i := i) (v := y) (by simpa using hy)
    exact ⟨_, _, rfl, a, b, ta, tb, ha, hb, rfl, rfl⟩
  refine ⟨_, _, _, _, _, _, news, J, rfl, adv_pair W hP2 hkind hx hx₂ hxx hh hLf hwr, W.sub, W.frame, ?_, W.done, W.self 0, hsz, hst, ?_, hLf, hwr, ?_, F', N', hj, turn _ ⟨_, rfl⟩, fin _ ⟨_, rfl⟩⟩
  · rintro i h ⟨e1, e2, ⟨_, _, e3⟩, ⟨o1, e4, _⟩, ⟨o2, e5, _⟩, _⟩ b hb
    simp only [List.mem_cons, List.not_mem_nil, or_false] at hb
    rcases hb with rfl | rfl | rfl | rfl
    · exact ⟨_, e1⟩
    · exact ⟨_, e3⟩
    · exact ⟨_, e4⟩
    · exact ⟨_, e5⟩
  · intro b hb
    show b < h'.objs.size
    rw [hsz']
    simp only [List.mem_cons, List.not_mem_nil, or_false] at hb
    have lt5 : ∀ k, k < 5 → @LT.lt Nat _ (s.heap.objs.size + k) (s.heap.objs.size + 5) := fun k hk => Nat.add_lt_add_left hk _
    rcases hb with rfl | rfl | rfl | rfl | rfl | rfl | rfl
    · exact lt5 4 (by decide)
    · exact lt5 2 (by decide)
    · exact lt5 3 (by decide)
    · exact lt5 0 (by decide)
    · exact lt5 1 (by decide)
    · exact Nat.lt_trans a1 (lt5 0 (by decide))
    · exact Nat.lt_trans a2 (lt5 0 (by decide))
  · intro p hp hm
    have hq1 : p.1 < s.heap.objs.size := Heap.lt_size (N p hp).1
    simp only [List.mem_cons, List.not_mem_nil, or_false] at hm
    have dn : ∀ k, p.1 ≠ s.heap.objs.size + k := fun k e => Nat.ne_of_lt (Nat.lt_of_lt_of_le hq1 (Nat.le_add_right _ k)) e
    rcases hm with e | e | e | e
    · exact dn 4 e
    · exact dn 3 e
    · exact dn 0 e
    · exact dn 1 e
end
end Mine
end
section
namespace Mine
theorem startC1 : True := by
  w_top off
  trivial
end Mine
open PySem PySem.W PyProof.Rows PySem.Calls
namespace Mine
set_option maxHeartbeats 4000000 in
theorem blank_end_c (w : World) (x : Str) (tx : Tok) (j : Int) (ti : Tok) (i : Nat) (hj : j = i) (hx : x.length ≤ 1000) (hi : i ≤ x.length) (news : List (Addr × Obj)) :
    Ctr w 71 1 16 [.str x tx, .int j ti] news (fun base L h₀ m s Q E => Ret h₀ L m s Q news (fun t => .int (bEnd x i) t)) := by
  subst hj
  unfold Ctr
  k_fill
  intro p loose mean mg mb dp un gd cn cs a ccd cl outer A₀ base h₀ L m s Q E B F X N T hk hdp hu hret
  refine wpAny_call ?_
  k_dflt ktr_enter
  show (let aw : PySem.Around := _; let ev : PySem.Env := _; wpAny _ aw (execs _ ev) _ _ _)
  intro aw ev
  refine wpAny_execs_cons ?_
  (rename Fr _ _ _ _ => lF)
  (rename News _ _ _ _ => lN)
  refine wl (σ := Nat × Tok) (fun _ => news) (fun c => [(Str.ofString "text", .str x tx), (Str.ofString "at", .int (c.1 : Int) c.2)]) (fun c => c.1 ≤ x.length ∧ bEnd x c.1 = bEnd x i) (fun c => x.length - c.1) lF ⟨(i, ti), lN, ⟨rfl, rfl, trivial⟩, hi, rfl⟩ ?turn ?hE
  case hE => passes_own
  case turn =>
    clear lF lN
    intro c u h tk hP F1 N1
    obtain ⟨c, tc⟩ := c
    dsimp only at hP F1 N1 ⊢
    obtain ⟨hc, hb⟩ := hP
    k_fold
    k_steps
    · have e : bEnd x i = c := by
        rw [← hb]
        refine bEnd_stop (by first | exact Int.ofNat_lt.mp ‹_› | omega) ?_
        have := in_blanks (x := x) (c := c) (by first | exact Int.ofNat_lt.mp ‹_› | omega)
        simp_all
      exact hret _ _ _ _ (by rw [e]) (by k_asm) (by k_asm)
    · refine ⟨(c + 1, _), _, _, _, rfl, by assumption, by assumption, ⟨rfl, rfl, trivial⟩, ⟨by first | exact Int.ofNat_lt.mp ‹_› | (dsimp only; omega), ?_⟩, by first | exact s2 ‹_› | (dsimp only; omega)⟩
      rw [← hb]
      refine bEnd_step (by first | exact Int.ofNat_lt.mp ‹_› | omega) ?_
      have := in_blanks (x := x) (c := c) (by first | exact Int.ofNat_lt.mp ‹_› | omega)
      simp_all
    · have e : bEnd x i = c := by
        rw [← hb]
        exact bEnd_end (by first | exact Int.ofNat_le.mp (Int.not_lt.mp ‹_›) | omega)
      exact hret _ _ _ _ (by rw [e]) (by k_asm) (by k_asm)
end Mine
end
section
namespace Mine
theorem startC2 : True := by
  w_top off
  trivial
end Mine
open PySem PySem.W PyProof.Rows PySem.Calls
namespace Mine
@[irreducible] noncomputable def quotedF (x : Str) (i : Nat) : Str × Nat :=
  if Txt.find3 x (Str.ofString "\"") ((i : Int) + 1) < 0 then (Txt.slice x (some ((i : Int) + 1)) none, x.length)
  else (Txt.slice x (some ((i : Int) + 1)) (some (Txt.find3 x (Str.ofString "\"") ((i : Int) + 1))), bEnd x (Txt.find3 x (Str.ofString "\"") ((i : Int) + 1) + 1).toNat)

set_option maxHeartbeats 4000000 in
theorem quoted_field_c (w : World) (x : Str) (tx : Tok) (j : Int) (ti : Tok) (i : Nat) (hj : j = i) (hx : x.length ≤ 1000) (hi : i ≤ x.length) (news : List (Addr × Obj)) :
    Ctr w 78 2 32 [.str x tx, .int j ti] news (fun base L h₀ m s Q E => RetT h₀ L m s Q news (fun t t2 => [.str (quotedF x i).1 t, .int (quotedF x i).2 t2])) := by
  subst hj
  have hf : -1 ≤ Txt.find3 x (Str.ofString "\"") ((i : Int) + 1) ∧ Txt.find3 x (Str.ofString "\"") ((i : Int) + 1) < x.length ∧ (Txt.find3 x (Str.ofString "\"") ((i : Int) + 1) < 0 ∨ (i : Int) + 1 ≤ Txt.find3 x (Str.ofString "\"") ((i : Int) + 1)) := find3_q x (i + 1)
  unfold Ctr
  k_fill
  intro p loose mean mg mb dp un gd cn cs a ccd cl outer A₀ base h₀ L m s Q E B F X N T hk hdp hu hret
  refine wpAny_call ?_
  k_dflt ktr_enter
  show (let aw : PySem.Around := _; let ev : PySem.Env := _; wpAny _ aw (execs _ ev) _ _ _)
  intro aw ev
  (repeat' (first | ((fail_if_success (fail_if_success (with_reducible show wpAny _ _ (call (Value.ref _) (_ :: _)) _ _ _))); (k_here; k_dflt (refine' blank_end_c _ _ _ _ _ _ ?zqcj ?zqcx ?zqca _ _ _ _ _ _ _ _ _ _ _ _ _ _ _ _ _ _ _ _ _ _ _ ?zqk1 ?zqk2 ?zqk3 ?zqk4 ?zqk5 ?zqkK ?zqkd ?zqku ?_; (case zqcj => first | exact rfl | (refine' (Int.toNat_of_nonneg ?_).symm; omega)); (case zqk1 => k_asm); (case zqk2 => k_asm); (case zqk3 => k_asm); (case zqk4 => k_asm); (case zqk5 => k_asm); (case zqkK => first | exact rfl | assumption); (case zqcx => (first | assumption | omega)); (case zqca => omega); (case zqkd => ktr_room); (case zqku => ktr_units); refine Ret.use ?_; intro t9 h9 tk9 F9 N9; (try dsimp only); (try k_fold)))) | (k_unfold; (try dsimp only)) | (k_end; wrow_close) | walk1 | (dsimp only; first | walk1 | (fail_if_success (fail_if_success (with_reducible show wpAny _ _ (call (Value.ref _) (_ :: _)) _ _ _)))) | (leave1; walk_say "STEP leave1"; try dsimp only) | fail "no step"))
  · have e : quotedF x i = (Txt.slice x (some ((i : Int) + 1)) none, x.length) := by unfold quotedF; exact if_pos (by assumption)
    exact hret _ _ _ _ _ _ (by k_asm) (by k_asm) (by assumption) (by rw [e])
  · have e : quotedF x i = (Txt.slice x (some ((i : Int) + 1)) (some (Txt.find3 x (Str.ofString "\"") ((i : Int) + 1))), bEnd x (Txt.find3 x (Str.ofString "\"") ((i : Int) + 1) + 1).toNat) := by unfold quotedF; exact if_neg (by assumption)
    exact hret _ _ _ _ _ _ (by k_asm) (by k_asm) (by assumption) (by rw [e])
end Mine
end
section
namespace Mine
theorem startC3 : True := by
  w_top off
  trivial
end Mine
open PySem PySem.W PyProof.Rows PySem.Calls
namespace Mine

theorem quotedF_le {x : Str} {i : Nat} (h : i ≤ x.length) : i ≤ (quotedF x i).2 ∧ (quotedF x i).2 ≤ x.length := by
  have hf := find3_q x (i + 1)
  unfold quotedF
  push_cast at hf
  split
  · exact ⟨h, Nat.le_refl _⟩
  · have := bEnd_le (x := x) (c := (Txt.find3 x (Str.ofString "\"") ((i : Int) + 1) + 1).toNat) (by omega)
    dsimp only
    omega
@[irreducible] noncomputable def fieldF (x : Str) (i : Nat) : Option Str × Nat :=
  if (Txt.slice x (some (bEnd x i : Int)) (some ((bEnd x i : Int) + 1)) == (Str.ofString "\"")) = true then
    (if ((quotedF x (bEnd x i)).2 : Int) = x.length ∨ (Txt.item x ((quotedF x (bEnd x i)).2 : Int) == (Str.ofString ",")) = true then some (quotedF x (bEnd x i)).1 else none, (quotedF x (bEnd x i)).2)
  else if Txt.find3 x (Str.ofString ",") (bEnd x i : Int) < 0 then (some (Txt.rstripChars (Txt.slice x (some (bEnd x i : Int)) (some (x.length : Int))) (Str.ofString " \t")), x.length)
  else (some (Txt.rstripChars (Txt.slice x (some (bEnd x i : Int)) (some (Txt.find3 x (Str.ofString ",") (bEnd x i : Int)))) (Str.ofString " \t")), (Txt.find3 x (Str.ofString ",") (bEnd x i : Int)).toNat)
set_option maxHeartbeats 4000000 in
theorem field_at_c (w : World) (x : Str) (tx : Tok) (j : Int) (ti : Tok) (i : Nat) (hj : j = i) (hx : x.length ≤ 1000) (hi : i ≤ x.length) (news : List (Addr × Obj)) :
    Ctr w 85 3 48 [.str x tx, .int j ti] news (fun base L h₀ m s Q E => ((fieldF x i).1 = none → RetT h₀ L m s Q news (fun t t2 => [.none, .int (fieldF x i).2 t2])) ∧ ∀ f, (fieldF x i).1 = some f → RetT h₀ L m s Q news (fun t t2 => [.str f t, .int (fieldF x i).2 t2])) := by
  subst hj
  have hb := bEnd_le (x := x) (c := i) (by omega)
  have hf : -1 ≤ Txt.find3 x (Str.ofString ",") ((bEnd x i : Nat) : Int) ∧ Txt.find3 x (Str.ofString ",") ((bEnd x i : Nat) : Int) < x.length ∧ (Txt.find3 x (Str.ofString ",") ((bEnd x i : Nat) : Int) < 0 ∨ (bEnd x i : Int) ≤ Txt.find3 x (Str.ofString ",") (bEnd x i : Int)) := find3_c x (bEnd x i)
  have hq := (quotedF_le (x := x) (i := bEnd x i) (by omega)).2
  unfold Ctr
  k_fill
  intro p loose mean mg mb dp un gd cn cs a ccd cl outer A₀ base h₀ L m s Q E B F X N T hk hdp hu hret
  refine wpAny_call ?_
  k_dflt ktr_enter
  show (let aw : PySem.Around := _; let ev : PySem.Env := _; wpAny _ aw (execs _ ev) _ _ _)
  intro aw ev
  (repeat' (first | ((fail_if_success (fail_if_success (with_reducible show wpAny _ _ (call (Value.ref _) (_ :: _)) _ _ _))); (k_here; k_dflt (refine' quoted_field_c _ _ _ _ _ _ ?zqcj ?zqcx ?zqca _ _ _ _ _ _ _ _ _ _ _ _ _ _ _ _ _ _ _ _ _ _ _ ?zqk1 ?zqk2 ?zqk3 ?zqk4 ?zqk5 ?zqkK ?zqkd ?zqku ?_; (case zqcj => first | exact rfl | (refine' (Int.toNat_of_nonneg ?_).symm; omega)); (case zqk1 => k_asm); (case zqk2 => k_asm); (case zqk3 => k_asm); (case zqk4 => k_asm); (case zqk5 => k_asm); (case zqkK => first | exact rfl | assumption); (case zqcx => (first | assumption | omega)); (case zqca => omega); (case zqkd => ktr_room); (case zqku => ktr_units); intro t9 t9' D9 h9 tk9 vs9 F9 N9 l9 e9; subst e9; (try dsimp only); (try k_fold)))) | ((fail_if_success (fail_if_success (with_reducible show wpAny _ _ (call (Value.ref _) (_ :: _)) _ _ _))); (k_here; k_dflt (refine' blank_end_c _ _ _ _ _ _ ?zqcj ?zqcx ?zqca _ _ _ _ _ _ _ _ _ _ _ _ _ _ _ _ _ _ _ _ _ _ _ ?zqk1 ?zqk2 ?zqk3 ?zqk4 ?zqk5 ?zqkK ?zqkd ?zqku ?_; (case zqcj => first | exact rfl | (refine' (Int.toNat_of_nonneg ?_).symm; omega)); (case zqk1 => k_asm); (case zqk2 => k_asm); (case zqk3 => k_asm); (case zqk4 => k_asm); (case zqk5 => k_asm); (case zqkK => first | exact rfl | assumption); (case zqcx => (first | assumption | omega)); (case zqca => omega); (case zqkd => ktr_room); (case zqku => ktr_units); refine Ret.use ?_; intro t9 h9 tk9 F9 N9; (try dsimp only); (try k_fold)))) | (k_unfold; (try dsimp only)) | (k_end; wrow_close) | walk1 | (dsimp only; first | walk1 | (fail_if_success (fail_if_success (with_reducible show wpAny _ _ (call (Value.ref _) (_ :: _)) _ _ _)))) | (leave1; walk_say "STEP leave1"; try dsimp only) | fail "no step"))
  all_goals (rename ((Txt.slice _ _ _ == _) = _) => hs)
  · rename (((quotedF _ _).2 : Int) = _) => he
    have e : fieldF x i = (some (quotedF x (bEnd x i)).1, (quotedF x (bEnd x i)).2) := by unfold fieldF; rw [if_pos hs, if_pos (.inl he)]
    exact hret.2 _ (by rw [e]) _ _ _ _ _ _ (by k_asm) (ndrop (a := [_]) (b := [_]) (by k_asm)) (fun p hp => by rename (_ ∧ AllLt _ _) => l; exact allLt_mem l.2 p hp) (by rw [e])
  · rename (((quotedF _ _).2 : Int) ≠ _) => hn
    rename ((Txt.item _ _ == _) = _) => hc
    have e : fieldF x i = (some (quotedF x (bEnd x i)).1, (quotedF x (bEnd x i)).2) := by unfold fieldF; rw [if_pos hs, if_pos (.inr hc)]
    exact hret.2 _ (by rw [e]) _ _ _ _ _ _ (by k_asm) (ndrop (a := [_]) (b := [_]) (by k_asm)) (fun p hp => by rename (_ ∧ AllLt _ _) => l; exact allLt_mem l.2 p hp) (by rw [e])
  · rename (((quotedF _ _).2 : Int) ≠ _) => hn
    rename ((Txt.item _ _ == _) = _) => hc
    have e : fieldF x i = (none, (quotedF x (bEnd x i)).2) := by unfold fieldF; rw [if_pos hs, if_neg (fun h => h.elim hn (fun h => by rw [hc] at h; cases h))]
    exact hret.1 (by rw [e]) 0 _ _ _ _ _ (by k_asm) (ndrop (a := [_]) (b := [_]) (by k_asm)) (fun p hp => by rename (_ ∧ AllLt _ _) => l; exact allLt_mem l.2 p hp) (by rw [e])
  · rename (Txt.find3 _ _ _ < 0) => hc
    have e : fieldF x i = (some (Txt.rstripChars (Txt.slice x (some (bEnd x i : Int)) (some (x.length : Int))) (Str.ofString " \t")), x.length) := by unfold fieldF; rw [if_neg (by rw [hs]; exact Bool.false_ne_true), if_pos hc]
    exact hret.2 _ (by rw [e]) _ _ _ _ _ _ (by k_asm) (by k_asm) (by assumption) (by rw [e])
  · rename (¬ Txt.find3 _ _ _ < 0) => hc
    have e : fieldF x i = (some (Txt.rstripChars (Txt.slice x (some (bEnd x i : Int)) (some (Txt.find3 x (Str.ofString ",") (bEnd x i : Int)))) (Str.ofString " \t")), (Txt.find3 x (Str.ofString ",") (bEnd x i : Int)).toNat) := by unfold fieldF; rw [if_neg (by rw [hs]; exact Bool.false_ne_true), if_neg hc]
    have e2 : (((Txt.find3 x (Str.ofString ",") (bEnd x i : Int)).toNat : Nat) : Int) = Txt.find3 x (Str.ofString ",") (bEnd x i : Int) := Int.toNat_of_nonneg (by omega)
    exact hret.2 _ (by rw [e]) _ _ _ _ _ _ (by k_asm) (by k_asm) (by assumption) (by rw [e]; dsimp only; rw [e2])
end Mine
end
section
namespace Mine
theorem startC4 : True := by
  w_top off
  trivial
end Mine
open PySem PySem.W PyProof.Rows PySem.Calls
namespace Mine


theorem fieldF_le {x : Str} {i : Nat} (h : i ≤ x.length) : i ≤ (fieldF x i).2 ∧ (fieldF x i).2 ≤ x.length := by
  have hb := bEnd_le h
  have hq := quotedF_le (x := x) (i := bEnd x i) hb.2
  have hf := find3_c x (bEnd x i)
  unfold fieldF
  split
  · exact ⟨Nat.le_trans hb.1 hq.1, hq.2⟩
  · split
    · exact ⟨h, Nat.le_refl _⟩
    · dsimp only
      (first | lia | omega)
noncomputable def nextP (p : Option Str × Nat) (n : Nat) (rec : Nat → Option (List Str)) : Option (List Str) := match p.1 with
  | none => none
  | some f => if p.2 < n then (rec (p.2 + 1)).map (f :: ·) else some [f]
noncomputable def partedG : Nat → Str → Nat → Option (List Str)
  | 0, _, _ => none
  | k + 1, x, i => nextP (fieldF x i) x.length (partedG k x)
@[irreducible] noncomputable def partedF (x : Str) : Option (List Str) := partedG (x.length + 1) x 0
theorem partedG_none {k : Nat} {x : Str} {i : Nat} (h : (fieldF x i).1 = none) : partedG (k + 1) x i = none := by
  show nextP (fieldF x i) x.length (partedG k x) = none
  unfold nextP; rw [h]
theorem partedG_go {k : Nat} {x : Str} {i : Nat} {f : Str} (h : (fieldF x i).1 = some f) (hl : (fieldF x i).2 < x.length) : partedG (k + 1) x i = (partedG k x ((fieldF x i).2 + 1)).map (f :: ·) := by
  show nextP (fieldF x i) x.length (partedG k x) = _
  unfold nextP; rw [h]; exact if_pos hl
theorem partedG_end {k : Nat} {x : Str} {i : Nat} {f : Str} (h : (fieldF x i).1 = some f) (hl : ¬ (fieldF x i).2 < x.length) : partedG (k + 1) x i = some [f] := by
  show nextP (fieldF x i) x.length (partedG k x) = _
  unfold nextP; rw [h]; exact if_neg hl
structure PfSt where
  fs : List Str
  vs : List Value
  nn : Nat
  i : Nat
  g : Bool
  ti : Tok
noncomputable def PfInv (x : Str) (c : PfSt) : Prop := StrsAre c.vs c.fs ∧ c.vs.length ≤ c.i ∧ c.i ≤ x.length + 1 ∧ (c.g = true → c.i ≤ x.length ∧ ∃ k, x.length + 1 ≤ k + c.i ∧ partedF x = (partedG k x c.i).map (c.fs ++ ·)) ∧ (c.g = false → partedF x = some c.fs)
local macro_rules | `(tactic| walk_at "exec While Name cons nil") => `(tactic| refine Stop.out ?_)
local macro_rules | `(tactic| k_all) => `(tactic| (intro p hp; exact Nat.ne_of_lt ((by assumption : ∀ p ∈ _, p.1 < _) p hp)))
local macro_rules | `(tactic| walk_at "WlPost") => `(tactic| dsimp only [WlPost])
set_option maxHeartbeats 4000000 in
theorem parted_fields_c (w : World) (x : Str) (tx : Tok) (hx : x.length ≤ 1000) (news : List (Addr × Obj)) :
    Ctr w 92 4 64 [.str x tx] news (fun base L h₀ m s Q E => RetL h₀ L m s Q news (partedF x)) := by
  unfold Ctr
  k_fill
  intro p loose mean mg mb dp un gd cn cs a ccd cl outer A₀ base h₀ L m s Q E B F X N T hk hdp hu hret
  refine wpAny_call ?_
  k_dflt ktr_enter
  show (let aw : PySem.Around := _; let ev : PySem.Env := _; wpAny _ aw (execs _ ev) _ _ _)
  intro aw ev
  (repeat' (first | ((fail_if_success (fail_if_success (with_reducible show wpAny _ _ (call (Value.ref _) (_ :: _)) _ _ _))); (k_here; k_dflt (refine' field_at_c _ _ _ _ _ _ ?zqcj ?zqcx ?zqca _ _ _ _ _ _ _ _ _ _ _ _ _ _ _ _ _ _ _ _ _ _ _ ?zqk1 ?zqk2 ?zqk3 ?zqk4 ?zqk5 ?zqkK ?zqkd ?zqku ?_; (case zqcj => first | exact rfl | (refine' (Int.toNat_of_nonneg ?_).symm; omega)); (case zqk1 => k_asm); (case zqk2 => k_asm); (case zqk3 => k_asm); (case zqk4 => k_asm); (case zqk5 => k_asm); (case zqkK => first | exact rfl | assumption); (case zqcx => (first | assumption | omega)); (case zqca => omega); (case zqkd => ktr_room); (case zqku => ktr_units); refine ⟨fun hfo => ?_, fun f hfo => ?_⟩ <;> (intro t9 t9' D9 h9 tk9 vs9 F9 N9 l9 e9; subst e9; (try k_lt l9); (try dsimp only); (try k_fold))))) | (k_unfold; (try dsimp only)) | (k_end; wrow_close) | walk1 | (dsimp only; first | walk1 | (fail_if_success (fail_if_success (with_reducible show wpAny _ _ (call (Value.ref _) (_ :: _)) _ _ _)))) | (leave1; walk_say "STEP leave1"; try dsimp only) | fail "no step"))
  refine Stop.mk ?_
  (rename Fr _ _ _ _ => lF)
  (rename News _ _ _ _ => lN)
  (rename (∀ p ∈ news, p.1 < _) => ll)
  refine nameBy ll ?_
  intro l' el
  subst el
  refine wl (σ := PfSt) (fun c => (l', W.listOf c.vs.toArray c.nn) :: news) (fun c => [(Str.ofString "text", .str x tx), (Str.ofString "found", .ref l'), (Str.ofString "at", .int (c.i : Int) c.ti), (Str.ofString "is_going", .bool c.g)]) (PfInv x) (fun c => x.length + 2 - c.i) lF ⟨⟨[], [], 0, 0, true, _⟩, ndrop (a := []) (b := [_]) lN, ⟨rfl, rfl, rfl, rfl, trivial⟩, .nil, Nat.le_refl _, Nat.zero_le _, fun _ => ⟨Nat.zero_le _, x.length + 1, Nat.le_refl _, by unfold partedF; simp⟩, fun h => nomatch h⟩ ?turn ?hE
  case hE => passes_own
  case turn =>
    clear lF lN
    intro c u h tk hP F1 N1
    obtain ⟨fs, vs, nn, i, g, ti⟩ := c
    obtain ⟨hv, hvi, hi, hg, hn⟩ := hP
    dsimp only at hv hvi hi hg hn F1 N1 ⊢
    have hvs := hv.length
    cases g with
    | false =>
      (repeat' (first | ((fail_if_success (fail_if_success (with_reducible show wpAny _ _ (call (Value.ref _) (_ :: _)) _ _ _))); (k_here; k_dflt (refine' field_at_c _ _ _ _ _ _ ?zqcj ?zqcx ?zqca _ _ _ _ _ _ _ _ _ _ _ _ _ _ _ _ _ _ _ _ _ _ _ ?zqk1 ?zqk2 ?zqk3 ?zqk4 ?zqk5 ?zqkK ?zqkd ?zqku ?_; (case zqcj => first | exact rfl | (refine' (Int.toNat_of_nonneg ?_).symm; omega)); (case zqk1 => k_asm); (case zqk2 => k_asm); (case zqk3 => k_asm); (case zqk4 => k_asm); (case zqk5 => k_asm); (case zqkK => first | exact rfl | assumption); (case zqcx => (first | assumption | omega)); (case zqca => omega); (case zqkd => ktr_room); (case zqku => ktr_units); refine ⟨fun hfo => ?_, fun f hfo => ?_⟩ <;> (intro t9 t9' D9 h9 tk9 vs9 F9 N9 l9 e9; subst e9; (try k_lt l9); (try dsimp only); (try k_fold))))) | (k_unfold; (try dsimp only)) | (k_end; wrow_close) | walk1 | (dsimp only; first | walk1 | (fail_if_success (fail_if_success (with_reducible show wpAny _ _ (call (Value.ref _) (_ :: _)) _ _ _)))) | (leave1; walk_say "STEP leave1"; try dsimp only) | fail "no step"))
      exact hret.2 fs (hn rfl) _ _ _ _ _ hv (by k_asm) (by k_asm) ll
    | true =>
      obtain ⟨hi2, k, hk9, hT⟩ := hg rfl
      have hle := fieldF_le hi2
      have hsz : vs.toArray.size ≤ 1001 := by simp; omega
      (try k_fold)
      (repeat' (first | ((fail_if_success (fail_if_success (with_reducible show wpAny _ _ (call (Value.ref _) (_ :: _)) _ _ _))); (k_here; k_dflt (refine' field_at_c _ _ _ _ _ _ ?zqcj ?zqcx ?zqca _ _ _ _ _ _ _ _ _ _ _ _ _ _ _ _ _ _ _ _ _ _ _ ?zqk1 ?zqk2 ?zqk3 ?zqk4 ?zqk5 ?zqkK ?zqkd ?zqku ?_; (case zqcj => first | exact rfl | (refine' (Int.toNat_of_nonneg ?_).symm; omega)); (case zqk1 => k_asm); (case zqk2 => k_asm); (case zqk3 => k_asm); (case zqk4 => k_asm); (case zqk5 => k_asm); (case zqkK => first | exact rfl | assumption); (case zqcx => (first | assumption | omega)); (case zqca => omega); (case zqkd => ktr_room); (case zqku => ktr_units); refine ⟨fun hfo => ?_, fun f hfo => ?_⟩ <;> (intro t9 t9' D9 h9 tk9 vs9 F9 N9 l9 e9; subst e9; (try k_lt l9); (try dsimp only); (try k_fold))))) | (k_unfold; (try dsimp only)) | (k_end; wrow_close) | walk1 | (dsimp only; first | walk1 | (fail_if_success (fail_if_success (with_reducible show wpAny _ _ (call (Value.ref _) (_ :: _)) _ _ _)))) | (leave1; walk_say "STEP leave1"; try dsimp only) | fail "no step"))
      · rename ((fieldF x i).1 = none) => hfo
        have hT2 : partedF x = none := by
          obtain ⟨k, rfl⟩ : ∃ k', k = k' + 1 := ⟨k - 1, by first | exact s4 ‹_› ‹_› | omega⟩
          rw [hT, partedG_none hfo]; rfl
        exact hret.1 hT2 _ _ (by k_asm) (ndrop (a := []) (b := [_, _]) (by k_asm))
      · rename ((fieldF x i).1 = some _) => hfo
        obtain ⟨f, hf⟩ : ∃ f, (fieldF x i).1 = some f := ⟨_, hfo⟩
        obtain rfl : f = _ := Option.some.inj (hf.symm.trans hfo)
        rename (News _ _ _ _) => hN
        replace hN := ndrop (a := []) (b := [_]) hN
        rw [List.push_toArray] at hN
        refine ⟨⟨fs ++ [f], vs ++ [_], nn + 1, (fieldF x i).2 + 1, decide (((fieldF x i).2 : Int) < (x.length : Int)), _⟩, _, _, _, rfl, by assumption, hN, ⟨rfl, rfl, rfl, rfl, trivial⟩, ?_, by first | exact s5 ‹_› | (dsimp only; omega)⟩
        · obtain ⟨k, rfl⟩ : ∃ k', k = k' + 1 := ⟨k - 1, by first | exact s4 ‹_› ‹_› | omega⟩
          refine ⟨hv.append' (.cons _ _ .nil), by dsimp only; rw [List.length_append]; simp; omega, by dsimp only; omega, fun hd => ?_, fun hd => ?_⟩
          · have hd := of_decide_eq_true hd
            dsimp only
            refine ⟨by omega, k, by omega, ?_⟩
            rw [hT, partedG_go hfo (by omega)]
            cases partedG k x ((fieldF x i).2 + 1) <;> simp
          · have hd := of_decide_eq_false hd
            rw [hT, partedG_end hfo (by omega)]
            rfl
end Mine
end
section
namespace Mine
theorem startT1 : True := by
  w_top off
  trivial
end Mine
open PySem PySem.W PyProof.Rows PySem.Builtin.Str PySem.StrLaws
namespace Mine
noncomputable def SubT (f x : Str) : Prop := f.length ≤ x.length ∧ ∀ c ∈ tl f, c ∈ tl x
theorem SubT.trans {a b c : Str} (h : SubT a b) (g : SubT b c) : SubT a c := ⟨Nat.le_trans h.1 g.1, fun x hx => g.2 x (h.2 x hx)⟩
theorem SubT.ok {f x : Str} (h : SubT f x) (hx : PyData.strOk x = true) : PyData.strOk f = true := by
  unfold PyData.strOk at hx ⊢
  rw [Array.all_eq_true_iff_forall_mem] at hx ⊢
  exact fun c hc => hx c (Array.mem_toList_iff.mp (h.2 c (Array.mem_toList_iff.mpr hc)))
theorem strSub_sub (x : Str) (i j : Nat) : SubT (strSub x i j) x := by
  refine ⟨len_strSub x i j, fun c hc => ?_⟩
  rw [show tl (strSub x i j) = _ from strSub_toList x i j] at hc
  exact List.mem_of_mem_drop (List.mem_of_mem_take hc)
theorem slice_sub (x : Str) (l u : Option Int) : SubT (Txt.slice x l u) x := by
  refine ⟨Txt.slice_le x l u, fun c hc => ?_⟩
  unfold Txt.slice at hc
  split at hc
  · exact hc
  · have hc : c ∈ (strSliceIndices l u 1 x.length).filterMap (x.cps[·]?) := by simpa using hc
    obtain ⟨i, _, hi⟩ := List.mem_filterMap.mp hc
    exact Array.mem_toList_iff.mpr (Array.mem_of_getElem? hi)
theorem strip_sub (goes : Nat → Bool) (l r : Bool) (x : Str) : SubT (Txt.stripBy goes l r x) x := by
  unfold Txt.stripBy
  split
  · exact ⟨Nat.le_refl _, fun _ h => h⟩
  · exact strSub_sub _ _ _
theorem fieldF_sub {x f : Str} {i : Nat} (h : (fieldF x i).1 = some f) : SubT f x := by
  unfold fieldF at h
  split at h
  · dsimp only at h
    split at h
    · cases h
      unfold quotedF
      split <;> exact slice_sub _ _ _
    · cases h
  · split at h
    · cases h
      exact (strip_sub _ _ _ _).trans (slice_sub _ _ _)
    · cases h
      exact (strip_sub _ _ _ _).trans (slice_sub _ _ _)
theorem partedG_facts {x : Str} : ∀ (k i : Nat) (fs : List Str), i ≤ x.length → partedG k x i = some fs → (∀ f ∈ fs, SubT f x) ∧ i + fs.length ≤ x.length + 1 := by
  intro k
  induction k with
  | zero => intro i fs _ h; cases h
  | succ k ih =>
    intro i fs hi h
    have hle := fieldF_le hi
    rcases hf : (fieldF x i).1 with _ | f
    · rw [partedG_none hf] at h; cases h
    · by_cases hl : (fieldF x i).2 < x.length
      · rw [partedG_go hf hl] at h
        rcases hr : partedG k x ((fieldF x i).2 + 1) with _ | r
        · rw [hr] at h; cases h
        · rw [hr] at h; cases h
          have := ih _ r (by (first | lia | omega)) hr
          refine ⟨fun g hg => ?_, by simp; (first | lia | omega)⟩
          rcases List.mem_cons.mp hg with rfl | hg
          · exact fieldF_sub hf
          · exact this.1 g hg
      · rw [partedG_end hf hl] at h; cases h
        refine ⟨fun g hg => ?_, by simp; (first | lia | omega)⟩
        rcases List.mem_cons.mp hg with rfl | hg
        · exact fieldF_sub hf
        · cases hg
theorem parted_facts {x : Str} {fs : List Str} (h : partedF x = some fs) : (∀ f ∈ fs, SubT f x) ∧ fs.length ≤ x.length + 1 := by
  unfold partedF at h
  have := partedG_facts _ _ _ (Nat.zero_le _) h
  exact ⟨this.1, by (first | lia | omega)⟩
theorem parted_sub {x : Str} {fs : List Str} (h : partedF x = some fs) (hx : x.length ≤ 20) (hxo : PyData.strOk x = true) : ∀ f ∈ fs, f.length ≤ 20 ∧ PyData.strOk f = true := fun f hf =>
  have := (parted_facts h).1 f hf
  ⟨Nat.le_trans this.1 hx, this.ok hxo⟩
theorem parted_len {x : Str} {fs : List Str} (h : partedF x = some fs) (hx : x.length ≤ 20) : fs.length ≤ 21 := by
  have := (parted_facts h).2; (first | lia | omega)
end Mine
end
section
namespace Mine
theorem startC5 : True := by
  w_top off
  trivial
end Mine
open PySem PySem.W PyProof.Rows PySem.Calls PyProof.V PySem.Spec
namespace Mine
theorem canLayAll_strs : ∀ {ys : List Str}, (∀ y ∈ ys, PyData.strOk y = true) → PyData.canLayAll0 (ys.map .str) = true ∧ PyData.depthAll (ys.map .str) = 0
  | [], _ => ⟨rfl, rfl⟩
  | y :: ys, h => by
    have ih := canLayAll_strs (ys := ys) fun z hz => h z (.tail _ hz)
    simp [PyData.canLayAll0, PyData.canLay0, PyData.depthAll, PyData.depth, ih, h y (.head _)]
theorem shaped_strs {ys : List Str} (h : ∀ y ∈ ys, PyData.strOk y = true) : SeqAt.shaped (.list (ys.map .str)) = true := by
  have := canLayAll_strs h
  simp [SeqAt.shaped, PyData.canLay0, PyData.depth, this]
theorem eqv_strs_nil (ys : List Str) : PyData.eqv (.list (ys.map .str)) (.list []) = ys.isEmpty := by
  cases ys <;> simp [PyData.eqv, PyData.eqvAll]
theorem sign_ok {x y : Str} (hx : PyData.strOk x = true) (h : y ∈ signs x) : PyData.strOk y = true := by
  obtain ⟨n, hn, rfl⟩ := List.mem_map.mp h
  unfold PyData.strOk at hx ⊢
  rw [Array.all_eq_true_iff_forall_mem] at hx
  have := hx n (by simpa using hn)
  simpa using this
noncomputable def isD (c : Nat) : Bool := decide (48 ≤ c) && decide (c ≤ 57)
noncomputable def numL (l : List Nat) : Int := l.foldl (fun (a : Int) (c : Nat) => a * 10 + ((c : Int) - 48)) 0
@[irreducible] noncomputable def numF (x : Str) : Option Int := if x.length = 0 then none else if (tl x).all isD = true then some (numL (tl x)) else none
theorem digits_in (c : Nat) : decide (c ∈ tl (Str.ofString "0123456789")) = isD c := by
  have e : tl (Str.ofString "0123456789") = [48, 49, 50, 51, 52, 53, 54, 55, 56, 57] := by decide
  rw [e]
  by_cases h : c < 58
  · revert c
    decide
  · have h1 : isD c = false := by simp [isD]; exact fun _ => Nat.not_lt.mp h
    rw [h1, decide_eq_false_iff_not]
    intro hm
    exact h ((by decide : ∀ x ∈ [48, 49, 50, 51, 52, 53, 54, 55, 56, 57], x < 58) c hm)
theorem bad_signs (x : Str) : (List.filter (fun a => !!List.isEmpty (Builtin.Str.occurrences (Str.ofString "0123456789") a 0 (Str.length (Str.ofString "0123456789")) 1)) (signs x)).isEmpty = (tl x).all isD := by
  have : (tl x).all isD = (signs x).all (fun a => !List.isEmpty (Builtin.Str.occurrences (Str.ofString "0123456789") a 0 (Str.length (Str.ofString "0123456789")) 1)) := by
    unfold signs
    rw [List.all_map]
    congr 1
    funext c
    show isD c = !List.isEmpty (Builtin.Str.occurrences (Str.ofString "0123456789") ⟨#[c]⟩ 0 (Str.length (Str.ofString "0123456789")) 1)
    rw [in_text, Bool.not_not, digits_in]
  rw [this]
  generalize signs x = l
  induction l with
  | nil => rfl
  | cons a l ih =>
    rw [List.filter_cons, List.all_cons]
    cases h : List.isEmpty (Builtin.Str.occurrences (Str.ofString "0123456789") a 0 (Str.length (Str.ofString "0123456789")) 1) with
    | true => simp
    | false => simpa using ih
local macro_rules | `(tactic| walk_at "exec For Name Name cons nil") => `(tactic| refine Stop.out ?_)
theorem numL_snoc (l : List Nat) (c : Nat) : numL (l ++ [c]) = numL l * 10 + ((c : Int) - 48) := by unfold numL; rw [List.foldl_append]; rfl
theorem take_snoc {l : List Nat} {i n : Nat} (h : l[i]? = some n) : l.take (i + 1) = l.take i ++ [n] := by
  rw [List.take_add_one, h]; rfl
theorem find_digit {n : Nat} (h : isD n = true) : Txt.find (Str.ofString "0123456789") ⟨#[n]⟩ = (n : Int) - 48 := by
  have h : 48 ≤ n ∧ n ≤ 57 := by simpa [isD] using h
  obtain ⟨k, rfl⟩ := Nat.exists_eq_add_of_le h.1
  exact (by decide +kernel : ∀ k : Nat, k < 10 → Txt.find (Str.ofString "0123456789") ⟨#[48 + k]⟩ = ((48 + k : Nat) : Int) - 48) k (Nat.lt_of_add_lt_add_left (n := 48) (Nat.lt_succ_of_le h.2))
noncomputable abbrev RetO (h₀ : Heap) (L : Addr) (m : Str → Option Value) (s : Shared) (Q : Value → Shared → Prop) (news : List (Addr × Obj)) (T : Option Int) : Prop :=
  (T = none → Ret h₀ L m s Q news (fun _ => .none)) ∧ (∀ k, T = some k → Ret h₀ L m s Q news (fun t => .int k t))
set_option maxHeartbeats 4000000 in
theorem law_number_c (w : World) (x : Str) (tx : Tok) (hx : x.length ≤ 20) (hxo : PyData.strOk x = true) (news : List (Addr × Obj)) :
    Ctr w 176 2 128 [.str x tx] news (fun base L h₀ m s Q E => RetO h₀ L m s Q news (numF x)) := by
  unfold Ctr
  k_fill
  intro p loose mean mg mb dp un gd cn cs a ccd cl outer A₀ base h₀ L m s Q E B F X N T hk hdp hu hret
  refine wpAny_call ?_
  k_dflt ktr_enter
  show (let aw : PySem.Around := _; let ev : PySem.Env := _; wpAny _ aw (execs _ ev) _ _ _)
  intro aw ev
  (repeat' (first | ((fail_if_success (fail_if_success (with_reducible show wpAny _ _ (compareOp CmpOp.NotEq (Value.ref _) (Value.ref _)) _ _ _))); (k_here; (with_reducible show wpAny _ _ (compareOp CmpOp.NotEq (Value.ref _) (Value.ref _)) _ _ _); k_dflt (refine' ne_dataH (reads_newData (ds := List.map PyData.str _) ?zqa ?zqb) (reads_newData (ds := []) ?zqc .nil) ?zqd ?zqe ?zqf ?_; (case zqa => exact News.isList (by k_asm) (by k_mem)); (case zqb => with_reducible assumption); (case zqc => exact News.isList (by k_asm) (by k_mem)); (case zqd => exact shaped_strs (fun y hy => sign_ok (by assumption) (List.mem_filter.mp hy).1)); (case zqe => rfl); (case zqf => exact (Mine.rm2 hu rfl : un + 3 + 64 < cLine)); rw [eqv_strs_nil]))) | (k_unfold; (try dsimp only)) | (k_end; wrow_close) | walk1 | (dsimp only; first | walk1 | (fail_if_success (fail_if_success (with_reducible show wpAny _ _ (compareOp CmpOp.NotEq (Value.ref _) (Value.ref _)) _ _ _)))) | (leave1; walk_say "STEP leave1"; try dsimp only) | fail "no step"))
  · rename ((x == _) = true) => he
    have he2 : x.length = 0 := by rw [beq_iff_eq.mp he]; rfl
    exact hret.1 (by unfold numF; rw [if_pos he2]) 0 _ _ _ rfl (by k_asm) (by k_asm)
  · rename ((x == _) = false) => he
    rename (List.isEmpty _ = true) => hb
    rw [bad_signs] at hb
    have he2 : ¬ x.length = 0 := fun h => by
      have : x = Str.ofString "" := Str.ext' (Array.eq_empty_of_size_eq_zero h)
      rw [this] at he; cases he
    have hT : numF x = some (numL (tl x)) := by unfold numF; rw [if_neg he2, if_pos hb]
    refine Stop.mk ?_
    (rename Fr _ _ _ _ => lF)
    (rename News _ _ _ _ => lN)
    refine For_invVF lF (by exact rfl) (by exact rfl) ?_
    walk1
    refine fl_str (σ := Int × Tok) (fun _ => news) (fun c => [(Str.ofString "text", .str x tx), (Str.ofString "found", .int c.1 c.2)]) (fun i c => c.1 = numL ((tl x).take i)) rfl lF ⟨(0, _), ndrop (a := []) (b := [_, _]) lN, ⟨rfl, rfl, trivial⟩, rfl⟩ (fun _ _ => rfl) ?turn ?done
    case done =>
      intro c u h tk hP F1 N1
      obtain ⟨c, tc⟩ := c
      clear lF lN
      dsimp only at hP F1 N1 ⊢
      (repeat' (first | ((fail_if_success (fail_if_success (with_reducible show wpAny _ _ (compareOp CmpOp.NotEq (Value.ref _) (Value.ref _)) _ _ _))); (k_here; (with_reducible show wpAny _ _ (compareOp CmpOp.NotEq (Value.ref _) (Value.ref _)) _ _ _); k_dflt (refine' ne_dataH (reads_newData (ds := List.map PyData.str _) ?zqa ?zqb) (reads_newData (ds := []) ?zqc .nil) ?zqd ?zqe ?zqf ?_; (case zqa => exact News.isList (by k_asm) (by k_mem)); (case zqb => with_reducible assumption); (case zqc => exact News.isList (by k_asm) (by k_mem)); (case zqd => exact shaped_strs (fun y hy => sign_ok (by assumption) (List.mem_filter.mp hy).1)); (case zqe => rfl); (case zqf => exact (Mine.rm2 hu rfl : un + 3 + 64 < cLine)); rw [eqv_strs_nil]))) | (k_unfold; (try dsimp only)) | (k_end; wrow_close) | walk1 | (dsimp only; first | walk1 | (fail_if_success (fail_if_success (with_reducible show wpAny _ _ (compareOp CmpOp.NotEq (Value.ref _) (Value.ref _)) _ _ _)))) | (leave1; walk_say "STEP leave1"; try dsimp only) | fail "no step"))
      have e : numL (tl x) = c := by rw [hP, List.take_of_length_le (Nat.le_of_eq (tl_len x))]
      exact hret.2 _ hT tc _ _ _ (by rw [e]) (by k_asm) (by k_asm)
    case turn =>
      intro i n t c u h tk own hn hoff hP F1 N1
      obtain ⟨c, tc⟩ := c
      clear lF lN
      dsimp only at hP F1 N1 ⊢
      have hd := find_digit (List.all_eq_true.mp hb n (List.mem_of_getElem? hn))
      have hd0 : 48 ≤ n := by have := List.all_eq_true.mp hb n (List.mem_of_getElem? hn); simp [isD] at this; exact this.1
      (try k_fold)
      (repeat' (first | ((fail_if_success (fail_if_success (with_reducible show wpAny _ _ (compareOp CmpOp.NotEq (Value.ref _) (Value.ref _)) _ _ _))); (k_here; (with_reducible show wpAny _ _ (compareOp CmpOp.NotEq (Value.ref _) (Value.ref _)) _ _ _); k_dflt (refine' ne_dataH (reads_newData (ds := List.map PyData.str _) ?zqa ?zqb) (reads_newData (ds := []) ?zqc .nil) ?zqd ?zqe ?zqf ?_; (case zqa => exact News.isList (by k_asm) (by k_mem)); (case zqb => with_reducible assumption); (case zqc => exact News.isList (by k_asm) (by k_mem)); (case zqd => exact shaped_strs (fun y hy => sign_ok (by assumption) (List.mem_filter.mp hy).1)); (case zqe => rfl); (case zqf => exact (Mine.rm2 hu rfl : un + 3 + 64 < cLine)); rw [eqv_strs_nil]))) | (k_unfold; (try dsimp only)) | (k_end; wrow_close) | walk1 | (dsimp only; first | walk1 | (fail_if_success (fail_if_success (with_reducible show wpAny _ _ (compareOp CmpOp.NotEq (Value.ref _) (Value.ref _)) _ _ _)))) | (leave1; walk_say "STEP leave1"; try dsimp only) | fail "no step"))
      · exfalso; omega
      · refine ⟨(_, _), _, _, _, rfl, by k_asm, by k_asm, ⟨rfl, rfl, trivial⟩, ?_⟩
        dsimp only
        rw [take_snoc hn, numL_snoc, hP, hd]
  · rename ((x == _) = false) => he
    rename (List.isEmpty _ = false) => hb
    rw [bad_signs] at hb
    have he2 : numF x = none := by unfold numF; split; rfl; rw [if_neg (by rw [hb]; exact Bool.false_ne_true)]
    exact hret.1 he2 0 _ _ _ rfl (by k_asm) (ndrop (a := []) (b := [_, _]) (by k_asm))
end Mine
end
section
namespace Mine
theorem startC6 : True := by
  w_top off
  trivial
end Mine
open PySem PySem.W PyProof.Rows PySem.Calls PyProof.V PySem.Spec
namespace Mine

/-- what a field is for a kind -/
@[irreducible] noncomputable def valF (k y : Str) : Option PyData := if (k == Str.ofString "text") = true then some (.str y) else if (y == Str.ofString "") = true then some (.int 0) else (numF y).map .int
theorem valF_text {k y : Str} (h : (k == Str.ofString "text") = true) : valF k y = some (.str y) := by unfold valF; rw [if_pos h]
theorem valF_zero {k y : Str} (h : (k == Str.ofString "text") = false) (h2 : (y == Str.ofString "") = true) : valF k y = some (.int 0) := by unfold valF; rw [if_neg (by rw [h]; exact Bool.false_ne_true), if_pos h2]
theorem valF_num {k y : Str} (h : (k == Str.ofString "text") = false) (h2 : (y == Str.ofString "") = false) : valF k y = (numF y).map .int := by unfold valF; rw [if_neg (by rw [h]; exact Bool.false_ne_true), if_neg (by rw [h2]; exact Bool.false_ne_true)]
noncomputable abbrev RetV (h₀ : Heap) (L : Addr) (m : Str → Option Value) (s : Shared) (Q : Value → Shared → Prop) (news : List (Addr × Obj)) (k y : Str) : Prop :=
  (valF k y = none → (k == Str.ofString "text") = false → Ret h₀ L m s Q news (fun _ => .none)) ∧ ((k == Str.ofString "text") = true → Ret h₀ L m s Q news (fun t => .str y t)) ∧ (∀ n, valF k y = some (.int n) → (k == Str.ofString "text") = false → Ret h₀ L m s Q news (fun t => .int n t))
set_option maxHeartbeats 4000000 in
theorem value_of_field_c (w : World) (y : Str) (ty : Tok) (k : Str) (tk : Tok) (hx : y.length ≤ 20) (hxo : PyData.strOk y = true) (news : List (Addr × Obj)) :
    Ctr w 99 3 160 [.str y ty, .str k tk, .ref 176] news (fun base L h₀ m s Q E => RetV h₀ L m s Q news k y) := by
  unfold Ctr
  k_fill
  intro p loose mean mg mb dp un gd cn cs a ccd cl outer A₀ base h₀ L m s Q E B F X N T hk hdp hu hret
  refine wpAny_call ?_
  k_dflt ktr_enter
  show (let aw : PySem.Around := _; let ev : PySem.Env := _; wpAny _ aw (execs _ ev) _ _ _)
  intro aw ev
  (repeat' (first | ((fail_if_success (fail_if_success (with_reducible show wpAny _ _ (call (Value.ref _) (_ :: _)) _ _ _))); (k_here; k_dflt (refine' law_number_c _ _ _ ?zqcx ?zqco _ _ _ _ _ _ _ _ _ _ _ _ _ _ _ _ _ _ _ _ _ _ _ ?zqk1 ?zqk2 ?zqk3 ?zqk4 ?zqk5 ?zqkK ?zqkd ?zqku ?_; (case zqk1 => k_asm); (case zqk2 => k_asm); (case zqk3 => k_asm); (case zqk4 => k_asm); (case zqk5 => k_asm); (case zqkK => first | exact rfl | assumption); (case zqcx => first | assumption | omega); (case zqco => assumption); (case zqkd => ktr_room); (case zqku => ktr_units); refine ⟨fun hnf => ?_, fun k9 hnf => ?_⟩ <;> (refine Ret.use ?_; intro t9 h9 tk9 F9 N9; (try dsimp only); (try k_fold))))) | (k_unfold; (try dsimp only)) | (k_end; wrow_close) | walk1 | (dsimp only; first | walk1 | (fail_if_success (fail_if_success (with_reducible show wpAny _ _ (call (Value.ref _) (_ :: _)) _ _ _)))) | (leave1; walk_say "STEP leave1"; try dsimp only) | fail "no step"))
  · exact hret.2.1 (by assumption) _ _ _ _ rfl (by k_asm) (by k_asm)
  · exact hret.2.2 _ (valF_zero (by assumption) (by assumption)) (by assumption) _ _ _ _ rfl (by k_asm) (by k_asm)
  · rename (numF y = _) => hn
    exact hret.1 (by rw [valF_num (by assumption) (by assumption), hn]; rfl) (by assumption) 0 _ _ _ rfl (by k_asm) (by k_asm)
  · rename (numF y = _) => hn
    exact hret.2.2 _ (by rw [valF_num (by assumption) (by assumption), hn]; rfl) (by assumption) _ _ _ _ rfl (by k_asm) (by k_asm)
set_option maxHeartbeats 4000000 in
theorem law_value_c (w : World) (y : Str) (ty : Tok) (k : Str) (tk : Tok) (hx : y.length ≤ 20) (hxo : PyData.strOk y = true) (news : List (Addr × Obj)) :
    Ctr w 190 3 160 [.str y ty, .str k tk] news (fun base L h₀ m s Q E => RetV h₀ L m s Q news k y) := by
  unfold Ctr
  k_fill
  intro p loose mean mg mb dp un gd cn cs a ccd cl outer A₀ base h₀ L m s Q E B F X N T hk hdp hu hret
  refine wpAny_call ?_
  k_dflt ktr_enter
  show (let aw : PySem.Around := _; let ev : PySem.Env := _; wpAny _ aw (execs _ ev) _ _ _)
  intro aw ev
  (repeat' (first | ((fail_if_success (fail_if_success (with_reducible show wpAny _ _ (call (Value.ref _) (_ :: _)) _ _ _))); (k_here; k_dflt (refine' law_number_c _ _ _ ?zqcx ?zqco _ _ _ _ _ _ _ _ _ _ _ _ _ _ _ _ _ _ _ _ _ _ _ ?zqk1 ?zqk2 ?zqk3 ?zqk4 ?zqk5 ?zqkK ?zqkd ?zqku ?_; (case zqk1 => k_asm); (case zqk2 => k_asm); (case zqk3 => k_asm); (case zqk4 => k_asm); (case zqk5 => k_asm); (case zqkK => first | exact rfl | assumption); (case zqcx => first | assumption | omega); (case zqco => assumption); (case zqkd => ktr_room); (case zqku => ktr_units); refine ⟨fun hnf => ?_, fun k9 hnf => ?_⟩ <;> (refine Ret.use ?_; intro t9 h9 tk9 F9 N9; (try dsimp only); (try k_fold))))) | (k_unfold; (try dsimp only)) | (k_end; wrow_close) | walk1 | (dsimp only; first | walk1 | (fail_if_success (fail_if_success (with_reducible show wpAny _ _ (call (Value.ref _) (_ :: _)) _ _ _)))) | (leave1; walk_say "STEP leave1"; try dsimp only) | fail "no step"))
  · exact hret.2.1 (by assumption) _ _ _ _ rfl (by k_asm) (by k_asm)
  · exact hret.2.2 _ (valF_zero (by assumption) (by assumption)) (by assumption) _ _ _ _ rfl (by k_asm) (by k_asm)
  · rename (numF y = _) => hn
    exact hret.1 (by rw [valF_num (by assumption) (by assumption), hn]; rfl) (by assumption) 0 _ _ _ rfl (by k_asm) (by k_asm)
  · rename (numF y = _) => hn
    exact hret.2.2 _ (by rw [valF_num (by assumption) (by assumption), hn]; rfl) (by assumption) _ _ _ _ rfl (by k_asm) (by k_asm)
end Mine
end
section
namespace Mine
theorem startC7 : True := by
  w_top off
  trivial
end Mine
open PySem PySem.W PyProof.Rows PySem.Calls PyProof.V PySem.Spec
namespace Mine

noncomputable def fitL : List Str → List Str → Option (List PyData)
  | k :: ks, f :: fs => match valF k f with
    | none => none
    | some d => (fitL ks fs).map (d :: ·)
  | [], [] => some []
  | _, _ => none
noncomputable def fitF (ks : List Str) (x : Str) : Option (List PyData) := match partedF x with
  | none => none
  | some fs => if fs.length = ks.length then fitL ks fs else none
theorem fitL_none {k f : Str} {ks fs : List Str} (h : valF k f = none) : fitL (k :: ks) (f :: fs) = none := by rw [fitL, h]
theorem fitL_some {k f : Str} {ks fs : List Str} {d : PyData} (h : valF k f = some d) : fitL (k :: ks) (f :: fs) = (fitL ks fs).map (d :: ·) := by rw [fitL, h]
theorem drop_cons {α : Type} {l : List α} {i : Nat} {a : α} (h : l[i]? = some a) : l.drop i = a :: l.drop (i + 1) := by
  obtain ⟨hi, rfl⟩ := List.getElem?_eq_some_iff.mp h
  exact List.drop_eq_getElem_cons hi
structure FvSt where
  ds : List PyData
  vs : List Value
  nn : Nat
noncomputable def FvInv (ks fs : List Str) (i : Nat) (c : FvSt) : Prop := CarriedAll c.vs c.ds ∧ c.vs.length = i ∧ fitL ks fs = (fitL (ks.drop i) (fs.drop i)).map (c.ds ++ ·)
theorem carried_snoc : ∀ {vs : List Value} {ds : List PyData} {v : Value} {d : PyData}, CarriedAll vs ds → Carried v d → CarriedAll (vs ++ [v]) (ds ++ [d])
  | _, _, _, _, .nil, h => .cons h .nil
  | _, _, _, _, .cons h r, g => .cons h (carried_snoc r g)
theorem FvInv.step {ks fs : List Str} {i : Nat} {c : FvSt} {k f : Str} {d : PyData} {v : Value} (h : FvInv ks fs i c) (hk : ks[i]? = some k) (hf : fs[i]? = some f) (hd : valF k f = some d) (hv : Carried v d) (n : Nat) : FvInv ks fs (i + 1) ⟨c.ds ++ [d], c.vs ++ [v], n⟩ := by
  obtain ⟨h1, h2, h3⟩ := h
  refine ⟨carried_snoc h1 hv, by simp [h2], ?_⟩
  rw [h3, drop_cons hk, drop_cons hf, fitL_some hd]
  cases fitL (ks.drop (i + 1)) (fs.drop (i + 1)) <;> simp
theorem FvInv.fell {ks fs : List Str} {i : Nat} {c : FvSt} {k f : Str} (h : FvInv ks fs i c) (hk : ks[i]? = some k) (hf : fs[i]? = some f) (hd : valF k f = none) : fitL ks fs = none := by
  rw [h.2.2, drop_cons hk, drop_cons hf, fitL_none hd]; rfl
theorem FvInv.last {ks fs : List Str} {c : FvSt} (h : FvInv ks fs (min fs.length ks.length) c) (hl : fs.length = ks.length) : fitL ks fs = some c.ds := by
  rw [h.2.2, hl, Nat.min_self, List.drop_length, ← hl, List.drop_length]; simp [fitL]
noncomputable abbrev RetD (h₀ : Heap) (L : Addr) (m : Str → Option Value) (s : Shared) (Q : Value → Shared → Prop) (news : List (Addr × Obj)) (T : Option (List PyData)) : Prop :=
  (T = none → Ret h₀ L m s Q news (fun _ => .none)) ∧
  (∀ ds, T = some ds → ∀ (vs : List Value) (n : Nat) (l : Addr) (h' : Heap) (tk' : Nat), CarriedAll vs ds → Fr h₀ L h' m → News h₀ L h' ((l, W.listOf vs.toArray n) :: news) → (∀ p ∈ news, p.1 < l) → Q (.ref l) { s with heap := h', toks := tk' })
local macro_rules | `(tactic| walk_at "exec For Tuple Call cons nil") => `(tactic| ((fail_if_success (rename StopOff => x9)); refine Stop.out ?_))
local macro_rules | `(tactic| walk_at "call type:zip cons") => `(tactic| (refine Stop.out ?_))
local macro_rules | `(tactic| walk_at "FlPost") => `(tactic| dsimp only [FlPost])
local macro_rules | `(tactic| k_all) => `(tactic| assumption)
local macro_rules | `(tactic| k_all) => `(tactic| (intro p hp; exact Nat.ne_of_lt ((by assumption : ∀ p ∈ _, p.1 < _) p hp)))
noncomputable def kindsAll : List (List Str) := [[Str.ofString "whole"], [Str.ofString "text"], [Str.ofString "whole", Str.ofString "text"], [Str.ofString "text", Str.ofString "decimal", Str.ofString "text"], [Str.ofString "decimal", Str.ofString "whole"]]
set_option maxHeartbeats 4000000 in
theorem fitted_values_c (w : World) (x : Str) (tx : Tok) (ka : Addr) (kvs : List Value) (nk : Nat) (ks : List Str) (hks : StrsAre kvs ks) (hkl : ks.length ≤ 3) (hx : x.length ≤ 20) (hxo : PyData.strOk x = true) (news : List (Addr × Obj)) (hmem : (ka, W.listOf kvs.toArray nk) ∈ news) :
    Ctr w 106 5 256 [.ref ka, .str x tx, .ref 176] news (fun base L h₀ m s Q E => RetD h₀ L m s Q news (fitF ks x)) := by
  unfold Ctr
  k_fill
  intro p loose mean mg mb dp un gd cn cs a ccd cl outer A₀ base h₀ L m s Q E B F X N T hk hdp hu hret
  refine wpAny_call ?_
  k_dflt ktr_enter
  show (let aw : PySem.Around := _; let ev : PySem.Env := _; wpAny _ aw (execs _ ev) _ _ _)
  intro aw ev
  (repeat' (first | ((fail_if_success (fail_if_success (with_reducible show wpAny _ _ (call (Value.builtin "len") (_ :: _)) _ _ _))); (k_here; (with_reducible show wpAny _ _ (call (Value.builtin "len") [Value.ref _]) _ _ _); k_dflt (refine' len_strsA (News.isList ?zqa ?zqa2) ?zqb ?zqc ?_; (case zqa => k_asm); (case zqa2 => first | assumption | exact List.Mem.head _ | (refine List.Mem.tail _ ?_; first | assumption | exact List.Mem.head _)); (case zqb => assumption); (case zqc => first | omega | ((have hl := parted_len (by assumption) (by assumption)); omega)); k_whole))) | ((fail_if_success (fail_if_success (with_reducible show wpAny _ _ (call (Value.ref _) (_ :: _)) _ _ _))); (k_here; k_dflt (refine' value_of_field_c _ _ _ _ _ ?zqcx ?zqco _ _ _ _ _ _ _ _ _ _ _ _ _ _ _ _ _ _ _ _ _ _ _ ?zqk1 ?zqk2 ?zqk3 ?zqk4 ?zqk5 ?zqkK ?zqkd ?zqku ?_; (case zqk1 => k_asm); (case zqk2 => k_asm); (case zqk3 => k_asm); (case zqk4 => k_asm); (case zqk5 => k_asm); (case zqkK => first | exact rfl | assumption); (case zqcx => first | assumption | omega); (case zqco => assumption); (case zqkd => ktr_room); (case zqku => ktr_units); refine ⟨fun hvf hkt => ?zqvf1, fun hkt => ?zqvf2, fun k9 hvf hkt => ?zqvf3⟩; (case' zqvf1 => first | exact absurd hkt (by decide) | (refine Ret.use ?_; intro t9 h9 tk9 F9 N9; (try dsimp only); (try k_fold))); (case' zqvf2 => first | exact absurd hkt (by decide) | (refine Ret.use ?_; intro t9 h9 tk9 F9 N9; (try dsimp only); (try k_fold))); (case' zqvf3 => first | exact absurd hkt (by decide) | (refine Ret.use ?_; intro t9 h9 tk9 F9 N9; (try dsimp only); (try k_fold)))))) | ((fail_if_success (fail_if_success (with_reducible show wpAny _ _ (call (Value.ref _) (_ :: _)) _ _ _))); (k_here; k_dflt (refine' parted_fields_c _ _ _ ?zqcx _ _ _ _ _ _ _ _ _ _ _ _ _ _ _ _ _ _ _ _ _ _ _ ?zqk1 ?zqk2 ?zqk3 ?zqk4 ?zqk5 ?zqkK ?zqkd ?zqku ?_; (case zqk1 => k_asm); (case zqk2 => k_asm); (case zqk3 => k_asm); (case zqk4 => k_asm); (case zqk5 => k_asm); (case zqkK => first | exact rfl | assumption); (case zqcx => first | assumption | omega); (case zqkd => ktr_room); (case zqku => ktr_units); refine ⟨fun hpf => ?zqpf1, fun fs9 hpf => ?zqpf2⟩; (case' zqpf1 => (intro h9 tk9 F9 N9; (try dsimp only); (try k_fold))); (case' zqpf2 => (intro vs9 n9 l9' h9 tk9 sa9 F9 N9 l9; (try k_lt l9); (try dsimp only); (try k_fold)))))) | (k_unfold; (try dsimp only)) | (k_end; wrow_close) | walk1 | (dsimp only; first | walk1 | (fail_if_success (fail_if_success (with_reducible show wpAny _ _ (call (Value.builtin "len") (_ :: _)) _ _ _))) | (fail_if_success (fail_if_success (with_reducible show wpAny _ _ (call (Value.ref _) (_ :: _)) _ _ _)))) | (leave1; walk_say "STEP leave1"; try dsimp only) | fail "no step"))
  · rename (partedF x = _) => hp
    rename (((List.length _ : Nat) : Int) ≠ _) => hlen
    have hT : fitF ks x = none := by unfold fitF; rw [hp]; exact if_neg (fun h => hlen (by rw [h]))
    exact hret.1 hT 0 _ _ _ rfl (by k_asm) (ndrop (a := []) (b := [_]) (by k_asm))
  · refine Stop.mk ?_
    rename (partedF x = _) => hp
    rename (((List.length _ : Nat) : Int) = _) => hlen
    rename (StrsAre _ _) => hfs
    (rename Fr _ _ _ _ => lF)
    (rename News _ _ _ _ => lN)
    (rename (∀ p ∈ news, p.1 < _) => ll)
    have hsub := parted_sub hp hx hxo
    have hlen2 := Int.ofNat_inj.mp hlen
    refine nameEq hp ?_
    intro fs efs
    subst efs
    have hT : fitF ks x = fitL ks fs := by unfold fitF; rw [hp]; exact if_pos hlen2
    have so : StopOff := .mk
    refine For_pair3F lF rfl rfl rfl rfl ?_ (by intro _; rfl)
    (repeat' (first | ((fail_if_success (fail_if_success (with_reducible show wpAny _ _ (call (Value.builtin "len") (_ :: _)) _ _ _))); (k_here; (with_reducible show wpAny _ _ (call (Value.builtin "len") [Value.ref _]) _ _ _); k_dflt (refine' len_strsA (News.isList ?zqa ?zqa2) ?zqb ?zqc ?_; (case zqa => k_asm); (case zqa2 => first | assumption | exact List.Mem.head _ | (refine List.Mem.tail _ ?_; first | assumption | exact List.Mem.head _)); (case zqb => assumption); (case zqc => first | omega | ((have hl := parted_len (by assumption) (by assumption)); omega)); k_whole))) | ((fail_if_success (fail_if_success (with_reducible show wpAny _ _ (call (Value.ref _) (_ :: _)) _ _ _))); (k_here; k_dflt (refine' value_of_field_c _ _ _ _ _ ?zqcx ?zqco _ _ _ _ _ _ _ _ _ _ _ _ _ _ _ _ _ _ _ _ _ _ _ ?zqk1 ?zqk2 ?zqk3 ?zqk4 ?zqk5 ?zqkK ?zqkd ?zqku ?_; (case zqk1 => k_asm); (case zqk2 => k_asm); (case zqk3 => k_asm); (case zqk4 => k_asm); (case zqk5 => k_asm); (case zqkK => first | exact rfl | assumption); (case zqcx => first | assumption | omega); (case zqco => assumption); (case zqkd => ktr_room); (case zqku => ktr_units); refine ⟨fun hvf hkt => ?zqvf1, fun hkt => ?zqvf2, fun k9 hvf hkt => ?zqvf3⟩; (case' zqvf1 => first | exact absurd hkt (by decide) | (refine Ret.use ?_; intro t9 h9 tk9 F9 N9; (try dsimp only); (try k_fold))); (case' zqvf2 => first | exact absurd hkt (by decide) | (refine Ret.use ?_; intro t9 h9 tk9 F9 N9; (try dsimp only); (try k_fold))); (case' zqvf3 => first | exact absurd hkt (by decide) | (refine Ret.use ?_; intro t9 h9 tk9 F9 N9; (try dsimp only); (try k_fold)))))) | ((fail_if_success (fail_if_success (with_reducible show wpAny _ _ (call (Value.ref _) (_ :: _)) _ _ _))); (k_here; k_dflt (refine' parted_fields_c _ _ _ ?zqcx _ _ _ _ _ _ _ _ _ _ _ _ _ _ _ _ _ _ _ _ _ _ _ ?zqk1 ?zqk2 ?zqk3 ?zqk4 ?zqk5 ?zqkK ?zqkd ?zqku ?_; (case zqk1 => k_asm); (case zqk2 => k_asm); (case zqk3 => k_asm); (case zqk4 => k_asm); (case zqk5 => k_asm); (case zqkK => first | exact rfl | assumption); (case zqcx => first | assumption | omega); (case zqkd => ktr_room); (case zqku => ktr_units); refine ⟨fun hpf => ?zqpf1, fun fs9 hpf => ?zqpf2⟩; (case' zqpf1 => (intro h9 tk9 F9 N9; (try dsimp only); (try k_fold))); (case' zqpf2 => (intro vs9 n9 l9' h9 tk9 sa9 F9 N9 l9; (try k_lt l9); (try dsimp only); (try k_fold)))))) | (k_unfold; (try dsimp only)) | (k_end; wrow_close) | walk1 | (dsimp only; first | walk1 | (fail_if_success (fail_if_success (with_reducible show wpAny _ _ (call (Value.builtin "len") (_ :: _)) _ _ _))) | (fail_if_success (fail_if_success (with_reducible show wpAny _ _ (call (Value.ref _) (_ :: _)) _ _ _)))) | (leave1; walk_say "STEP leave1"; try dsimp only) | fail "no step"))
    refine Stop.mk ?_
    rename (_ ∧ AllLt _ news) => l1
    obtain ⟨hlt, hall⟩ := l1
    refine nameBy ll ?_
    intro lf e
    subst e
    refine nameAll hall ?_
    intro l' e
    subst e
    have hka := ll _ hmem
    dsimp only at hka
    have hls := Heap.lt_size (lN _ (List.Mem.head _)).1
    dsimp only at hls
    refine zl (σ := FvSt) (fun c => (l', W.listOf c.vs.toArray c.nn) :: (lf, W.listOf _ _) :: news) (fun c => [(Str.ofString "text", .str x tx), (Str.ofString "kinds", .ref ka), (Str.ofString "fields", .ref lf), (Str.ofString "found", .ref l'), (Str.ofString "read_number", .ref 176)]) (FvInv ks fs) rfl lF ⟨⟨[], [], 0⟩, lN, List.Mem.tail _ (List.Mem.head _), List.Mem.tail _ (List.Mem.tail _ hmem), ⟨rfl, rfl, rfl, rfl, rfl, trivial⟩, .nil, rfl, by simp⟩ hfs hks (fun _ _ => rfl) ?turn ?done
    case done =>
      intro c u h tk hP F1 N1
      clear lF lN
      have hlast := hP.last hlen2
      obtain ⟨ds, vs, nn⟩ := c
      obtain ⟨hv, hvl, hvt⟩ := hP
      dsimp only at hv hvl hvt F1 N1 hlast ⊢
      (repeat' (first | ((fail_if_success (fail_if_success (with_reducible show wpAny _ _ (call (Value.builtin "len") (_ :: _)) _ _ _))); (k_here; (with_reducible show wpAny _ _ (call (Value.builtin "len") [Value.ref _]) _ _ _); k_dflt (refine' len_strsA (News.isList ?zqa ?zqa2) ?zqb ?zqc ?_; (case zqa => k_asm); (case zqa2 => first | assumption | exact List.Mem.head _ | (refine List.Mem.tail _ ?_; first | assumption | exact List.Mem.head _)); (case zqb => assumption); (case zqc => first | omega | ((have hl := parted_len (by assumption) (by assumption)); omega)); k_whole))) | ((fail_if_success (fail_if_success (with_reducible show wpAny _ _ (call (Value.ref _) (_ :: _)) _ _ _))); (k_here; k_dflt (refine' value_of_field_c _ _ _ _ _ ?zqcx ?zqco _ _ _ _ _ _ _ _ _ _ _ _ _ _ _ _ _ _ _ _ _ _ _ ?zqk1 ?zqk2 ?zqk3 ?zqk4 ?zqk5 ?zqkK ?zqkd ?zqku ?_; (case zqk1 => k_asm); (case zqk2 => k_asm); (case zqk3 => k_asm); (case zqk4 => k_asm); (case zqk5 => k_asm); (case zqkK => first | exact rfl | assumption); (case zqcx => first | assumption | omega); (case zqco => assumption); (case zqkd => ktr_room); (case zqku => ktr_units); refine ⟨fun hvf hkt => ?zqvf1, fun hkt => ?zqvf2, fun k9 hvf hkt => ?zqvf3⟩; (case' zqvf1 => first | exact absurd hkt (by decide) | (refine Ret.use ?_; intro t9 h9 tk9 F9 N9; (try dsimp only); (try k_fold))); (case' zqvf2 => first | exact absurd hkt (by decide) | (refine Ret.use ?_; intro t9 h9 tk9 F9 N9; (try dsimp only); (try k_fold))); (case' zqvf3 => first | exact absurd hkt (by decide) | (refine Ret.use ?_; intro t9 h9 tk9 F9 N9; (try dsimp only); (try k_fold)))))) | ((fail_if_success (fail_if_success (with_reducible show wpAny _ _ (call (Value.ref _) (_ :: _)) _ _ _))); (k_here; k_dflt (refine' parted_fields_c _ _ _ ?zqcx _ _ _ _ _ _ _ _ _ _ _ _ _ _ _ _ _ _ _ _ _ _ _ ?zqk1 ?zqk2 ?zqk3 ?zqk4 ?zqk5 ?zqkK ?zqkd ?zqku ?_; (case zqk1 => k_asm); (case zqk2 => k_asm); (case zqk3 => k_asm); (case zqk4 => k_asm); (case zqk5 => k_asm); (case zqkK => first | exact rfl | assumption); (case zqcx => first | assumption | omega); (case zqkd => ktr_room); (case zqku => ktr_units); refine ⟨fun hpf => ?zqpf1, fun fs9 hpf => ?zqpf2⟩; (case' zqpf1 => (intro h9 tk9 F9 N9; (try dsimp only); (try k_fold))); (case' zqpf2 => (intro vs9 n9 l9' h9 tk9 sa9 F9 N9 l9; (try k_lt l9); (try dsimp only); (try k_fold)))))) | (k_unfold; (try dsimp only)) | (k_end; wrow_close) | walk1 | (dsimp only; first | walk1 | (fail_if_success (fail_if_success (with_reducible show wpAny _ _ (call (Value.builtin "len") (_ :: _)) _ _ _))) | (fail_if_success (fail_if_success (with_reducible show wpAny _ _ (call (Value.ref _) (_ :: _)) _ _ _)))) | (leave1; walk_say "STEP leave1"; try dsimp only) | fail "no step"))
      exact hret.2 ds (by rw [hT, hlast]) vs nn l' _ _ hv (by k_asm) (ndrop (a := [_]) (b := [_]) (by k_asm)) (allLt_mem hall)
    case turn =>
      intro i a b ta tb c u h tk own ha hb hoff hP F1 N1
      have hoff2 := hoff l' hls (Nat.ne_of_gt hlt) (Nat.ne_of_gt (Nat.lt_trans hka hlt))
      clear lF lN
      obtain ⟨hf1, hf2⟩ := hsub _ (List.mem_of_getElem? ha)
      have hP0 := hP
      obtain ⟨ds, vs, nn⟩ := c
      obtain ⟨hv, hvl, hvt⟩ := hP
      dsimp only at hv hvl hvt
      simp only [List.cons_append] at N1
      dsimp only at F1 N1 ⊢
      have hil : i < ks.length := (List.getElem?_eq_some_iff.mp hb).1
      have hsz : vs.toArray.size ≤ 3 := by simp; omega
      have hne : ∀ p ∈ news ++ own, p.1 ≠ l' := fun p hp => (List.mem_append.mp hp).elim (fun h => Nat.ne_of_lt (allLt_mem hall p h)) (hoff2 p)
      (try k_fold)
      (repeat' (first | ((fail_if_success (fail_if_success (with_reducible show wpAny _ _ (call (Value.builtin "len") (_ :: _)) _ _ _))); (k_here; (with_reducible show wpAny _ _ (call (Value.builtin "len") [Value.ref _]) _ _ _); k_dflt (refine' len_strsA (News.isList ?zqa ?zqa2) ?zqb ?zqc ?_; (case zqa => k_asm); (case zqa2 => first | assumption | exact List.Mem.head _ | (refine List.Mem.tail _ ?_; first | assumption | exact List.Mem.head _)); (case zqb => assumption); (case zqc => first | omega | ((have hl := parted_len (by assumption) (by assumption)); omega)); k_whole))) | ((fail_if_success (fail_if_success (with_reducible show wpAny _ _ (call (Value.ref _) (_ :: _)) _ _ _))); (k_here; k_dflt (refine' value_of_field_c _ _ _ _ _ ?zqcx ?zqco _ _ _ _ _ _ _ _ _ _ _ _ _ _ _ _ _ _ _ _ _ _ _ ?zqk1 ?zqk2 ?zqk3 ?zqk4 ?zqk5 ?zqkK ?zqkd ?zqku ?_; (case zqk1 => k_asm); (case zqk2 => k_asm); (case zqk3 => k_asm); (case zqk4 => k_asm); (case zqk5 => k_asm); (case zqkK => first | exact rfl | assumption); (case zqcx => first | assumption | omega); (case zqco => assumption); (case zqkd => ktr_room); (case zqku => ktr_units); refine ⟨fun hvf hkt => ?zqvf1, fun hkt => ?zqvf2, fun k9 hvf hkt => ?zqvf3⟩; (case' zqvf1 => first | exact absurd hkt (by decide) | (refine Ret.use ?_; intro t9 h9 tk9 F9 N9; (try dsimp only); (try k_fold))); (case' zqvf2 => first | exact absurd hkt (by decide) | (refine Ret.use ?_; intro t9 h9 tk9 F9 N9; (try dsimp only); (try k_fold))); (case' zqvf3 => first | exact absurd hkt (by decide) | (refine Ret.use ?_; intro t9 h9 tk9 F9 N9; (try dsimp only); (try k_fold)))))) | ((fail_if_success (fail_if_success (with_reducible show wpAny _ _ (call (Value.ref _) (_ :: _)) _ _ _))); (k_here; k_dflt (refine' parted_fields_c _ _ _ ?zqcx _ _ _ _ _ _ _ _ _ _ _ _ _ _ _ _ _ _ _ _ _ _ _ ?zqk1 ?zqk2 ?zqk3 ?zqk4 ?zqk5 ?zqkK ?zqkd ?zqku ?_; (case zqk1 => k_asm); (case zqk2 => k_asm); (case zqk3 => k_asm); (case zqk4 => k_asm); (case zqk5 => k_asm); (case zqkK => first | exact rfl | assumption); (case zqcx => first | assumption | omega); (case zqkd => ktr_room); (case zqku => ktr_units); refine ⟨fun hpf => ?zqpf1, fun fs9 hpf => ?zqpf2⟩; (case' zqpf1 => (intro h9 tk9 F9 N9; (try dsimp only); (try k_fold))); (case' zqpf2 => (intro vs9 n9 l9' h9 tk9 sa9 F9 N9 l9; (try k_lt l9); (try dsimp only); (try k_fold)))))) | (k_unfold; (try dsimp only)) | (k_end; wrow_close) | walk1 | (dsimp only; first | walk1 | (fail_if_success (fail_if_success (with_reducible show wpAny _ _ (call (Value.builtin "len") (_ :: _)) _ _ _))) | (fail_if_success (fail_if_success (with_reducible show wpAny _ _ (call (Value.ref _) (_ :: _)) _ _ _)))) | (leave1; walk_say "STEP leave1"; try dsimp only) | fail "no step"))
      · rename (valF b a = _) => hd
        rename (News _ _ _ _) => hN
        rw [List.push_toArray] at hN
        exact ⟨⟨ds ++ [_], vs ++ [_], nn + 1⟩, _, _, _, rfl, by assumption, hN, ⟨rfl, rfl, rfl, rfl, rfl, trivial⟩, hP0.step hb ha hd (.int _ _) _⟩
      · rename ((b == _) = true) => hkt
        rename (News _ _ _ _) => hN
        rw [List.push_toArray] at hN
        exact ⟨⟨ds ++ [_], vs ++ [_], nn + 1⟩, _, _, _, rfl, by assumption, hN, ⟨rfl, rfl, rfl, rfl, rfl, trivial⟩, hP0.step hb ha (valF_text hkt) (.str _ _) _⟩
      · rename (valF b a = _) => hd
        have hTn : fitF ks x = none := by rw [hT, hP0.fell hb ha hd]
        rename (News h₀ _ _ (_ :: _ :: (news ++ own))) => hN
        exact hret.1 hTn 0 _ _ _ rfl (by k_asm) (has_take (r := own) (ndrop (a := []) (b := [_, _]) hN))
  · rename (partedF x = _) => hp
    have hT : fitF ks x = none := by unfold fitF; rw [hp]
    exact hret.1 hT 0 _ _ _ rfl (by k_asm) (by k_asm)
end Mine
end
section
local macro_rules | `(tactic| walk_at "no such key 0") => `(tactic| skip)
theorem Mine.resetC8 : True ∧ True := by
  first | (walk1; done) | exact ⟨trivial, trivial⟩
end
section
namespace Mine
theorem startC8 : True := by
  w_top off
  trivial
end Mine
open PySem PySem.W PyProof.Rows PySem.Calls PyProof.V PySem.Spec
namespace Mine
local macro_rules | `(tactic| walk_at "execs cons") => `(tactic| (k_here; (fail_if_success (fail_if_success k_gentoks)); with_reducible refine genTok ?_; intro tk))
local macro_rules | `(tactic| walk_at "execs nil") => `(tactic| (k_here; (fail_if_success (fail_if_success k_gentoks)); with_reducible refine genTok ?_; intro tk))

inductive Mood | before | inside | after | bare
noncomputable def Mood.name : Mood → Str
  | .before => Str.ofString "before"
  | .inside => Str.ofString "inside"
  | .after => Str.ofString "after"
  | .bare => Str.ofString "bare"
noncomputable abbrev LpS := List Str × Str × Mood
noncomputable def lpStep (len i n : Nat) : LpS → Option LpS
  | (fs, now, .inside) => if i < len then (if n = 34 then some (fs, now, .after) else some (fs, now ++ ⟨#[n]⟩, .inside)) else some (fs ++ [now], Str.ofString "", .before)
  | (fs, now, .before) => if n = 44 then some (fs ++ [now], Str.ofString "", .before) else if n = 34 then some (fs, now, .inside) else if n = 32 then some (fs, now, .before) else some (fs, now ++ ⟨#[n]⟩, .bare)
  | (fs, now, .after) => if n = 44 then some (fs ++ [now], Str.ofString "", .before) else if n = 32 then some (fs, now, .after) else none
  | (fs, now, .bare) => if n = 44 then some (fs ++ [Txt.rstripChars now (Str.ofString " ")], Str.ofString "", .before) else some (fs, now ++ ⟨#[n]⟩, .bare)
noncomputable def lpRun (len : Nat) : Nat → List Nat → LpS → Option LpS
  | _, [], st => some st
  | i, n :: r, st => (lpStep len i n st).bind (lpRun len (i + 1) r)
noncomputable def lawPartedF (x : Str) : Option (List Str) := (lpRun x.length 0 (tl x ++ [44]) ([], Str.ofString "", .before)).map (·.1)
structure LpSt where
  fs : List Str
  vs : List Value
  nn : Nat
  now : Str
  tn : Tok
  mood : Mood
  tm : Tok
noncomputable def LpInv (x : Str) (i : Nat) (c : LpSt) : Prop := StrsAre c.vs c.fs ∧ c.vs.length ≤ i ∧ c.now.length ≤ i ∧ lawPartedF x = (lpRun x.length i ((tl x ++ [44]).drop i) (c.fs, c.now, c.mood)).map (·.1)
theorem tl_comma (x : Str) : tl (x ++ Str.ofString ",") = tl x ++ [44] := by
  show (x.cps ++ #[44]).toList = _
  simp
theorem lpRun_at {x : Str} {i n : Nat} {st : LpS} (hn : (tl x ++ [44])[i]? = some n) : lpRun x.length i ((tl x ++ [44]).drop i) st = (lpStep x.length i n st).bind (lpRun x.length (i + 1) ((tl x ++ [44]).drop (i + 1))) := by
  obtain ⟨hi, rfl⟩ := List.getElem?_eq_some_iff.mp hn
  rw [List.drop_eq_getElem_cons hi]
  rfl
theorem LpInv.goes {x : Str} {i n : Nat} {c : LpSt} {st : LpS} (h : LpInv x i c) (hn : (tl x ++ [44])[i]? = some n) (hs : lpStep x.length i n (c.fs, c.now, c.mood) = some st) : lawPartedF x = (lpRun x.length (i + 1) ((tl x ++ [44]).drop (i + 1)) st).map (·.1) := by
  rw [h.2.2.2, lpRun_at hn, hs]; rfl
theorem LpInv.fell {x : Str} {i n : Nat} {c : LpSt} (h : LpInv x i c) (hn : (tl x ++ [44])[i]? = some n) (hs : lpStep x.length i n (c.fs, c.now, c.mood) = none) : lawPartedF x = none := by
  rw [h.2.2.2, lpRun_at hn, hs]; rfl
theorem LpInv.last {x : Str} {c : LpSt} (h : LpInv x (x ++ Str.ofString ",").length c) : lawPartedF x = some c.fs := by
  rw [h.2.2.2]
  have e : (x ++ Str.ofString ",").length = (tl x ++ [44]).length := by rw [← tl_comma, tl_len]
  rw [e, List.drop_length]; rfl
theorem LpInv.more {x : Str} {i n : Nat} {c : LpSt} (h : LpInv x i c) (hn : (tl x ++ [44])[i]? = some n) {now' : Str} {mood' : Mood} (tn tm : Tok) (hl : now'.length ≤ c.now.length + 1) (hs : lpStep x.length i n (c.fs, c.now, c.mood) = some (c.fs, now', mood')) : LpInv x (i + 1) ⟨c.fs, c.vs, c.nn, now', tn, mood', tm⟩ :=
  ⟨h.1, Nat.le_succ_of_le h.2.1, Nat.le_trans hl (Nat.succ_le_succ h.2.2.1), h.goes hn hs⟩
theorem LpInv.push {x : Str} {i n : Nat} {c : LpSt} (h : LpInv x i c) (hn : (tl x ++ [44])[i]? = some n) {y : Str} (t : Tok) (nn : Nat) (tn tm : Tok) (hs : lpStep x.length i n (c.fs, c.now, c.mood) = some (c.fs ++ [y], Str.ofString "", .before)) : LpInv x (i + 1) ⟨c.fs ++ [y], c.vs ++ [.str y t], nn, Str.ofString "", tn, .before, tm⟩ :=
  ⟨h.1.append' (.cons _ _ .nil), by have := h.2.1; simp; omega, Nat.zero_le _, h.goes hn hs⟩
theorem sign_eq (n : Nat) (c : Nat) : ((⟨#[n]⟩ : Str) == ⟨#[c]⟩) = decide (n = c) := by
  rw [Bool.eq_iff_iff, beq_iff_eq, decide_eq_true_eq]
  constructor
  · intro h; cases h; rfl
  · rintro rfl; rfl
theorem sg44 {n : Nat} {b : Bool} (h : ((⟨#[n]⟩ : Str) == Str.ofString ",") = b) : decide (n = 44) = b := by rw [← h, ← sign_eq]; rfl
theorem sg34 {n : Nat} {b : Bool} (h : ((⟨#[n]⟩ : Str) == Str.ofString "\"") = b) : decide (n = 34) = b := by rw [← h, ← sign_eq]; rfl
theorem sg32 {n : Nat} {b : Bool} (h : ((⟨#[n]⟩ : Str) == Str.ofString " ") = b) : decide (n = 32) = b := by rw [← h, ← sign_eq]; rfl
local macro_rules | `(tactic| walk_at "exec For Tuple Call cons nil") => `(tactic| ((fail_if_success (rename StopOff => x9)); refine Stop.out ?_))
local macro_rules | `(tactic| walk_at "call type:enumerate cons") => `(tactic| (refine Stop.out ?_))
local macro_rules | `(tactic| walk_at "FlPost") => `(tactic| dsimp only [FlPost])
local macro_rules | `(tactic| k_all) => `(tactic| assumption)
local macro_rules | `(tactic| k_all) => `(tactic| (intro p hp; exact Nat.ne_of_lt ((by assumption : ∀ p ∈ _, p.1 < _) p hp)))
set_option maxHeartbeats 4000000 in
theorem law_parted_c (w : World) (x : Str) (tx : Tok) (hx : x.length ≤ 20) (news : List (Addr × Obj)) :
    Ctr w 183 2 128 [.str x tx] news (fun base L h₀ m s Q E => RetL h₀ L m s Q news (lawPartedF x)) := by
  unfold Ctr
  k_fill
  intro p loose mean mg mb dp un gd cn cs a ccd cl outer A₀ base h₀ L m s Q E B F X N T hk hdp hu hret
  refine wpAny_call ?_
  k_dflt ktr_enter
  show (let aw : PySem.Around := _; let ev : PySem.Env := _; wpAny _ aw (execs _ ev) _ _ _)
  intro aw ev
  k_steps
  refine Stop.mk ?_
  (rename Fr _ _ _ _ => lF)
  (rename News _ _ _ _ => lN)
  (rename (∀ p ∈ news, p.1 < _) => ll)
  have so : StopOff := .mk
  refine For_pair3F lF rfl rfl rfl rfl ?_ (by intro _; rfl)
  k_steps
  refine Stop.mk ?_
  refine nameBy ll ?_
  intro l' e
  subst e
  have hls := Heap.lt_size (lN _ (List.Mem.tail _ (List.Mem.head _))).1
  dsimp only at hls
  refine el_str (σ := LpSt) (fun c => (l', W.listOf c.vs.toArray c.nn) :: news) (fun c => [(Str.ofString "text", .str x tx), (Str.ofString "found", .ref l'), (Str.ofString "now", .str c.now c.tn), (Str.ofString "mood", .str c.mood.name c.tm)]) (LpInv x) rfl lF ⟨⟨[], [], 0, Str.ofString "", _, .before, _⟩, ndrop (a := []) (b := [_]) lN, ⟨rfl, rfl, rfl, rfl, trivial⟩, .nil, Nat.le_refl _, Nat.le_refl _, rfl⟩ (fun _ _ => rfl) ?turn ?done
  case done =>
    intro c u h tk hP F1 N1
    clear lF lN
    have hlast := hP.last
    obtain ⟨fs, vs, nn, now, tn, mood, tm⟩ := c
    have hv := hP.1
    dsimp only at hv F1 N1 hlast ⊢
    k_steps
    exact hret.2 fs hlast vs nn l' _ _ hv (by k_asm) (by k_asm) ll
  case turn =>
    intro i n ti t c u h tk own hn hoff hP F1 N1
    have hn2 : (tl x ++ [44])[i]? = some n := by rw [← tl_comma]; exact hn
    have hi : i < x.length + 1 := by
      have := (List.getElem?_eq_some_iff.mp hn2).1
      rw [List.length_append, tl_len] at this
      simpa using this
    clear lF lN
    obtain ⟨fs, vs, nn, now, tn, mood, tm⟩ := c
    have hne : ∀ p ∈ news ++ own, p.1 ≠ l' := fun p hp => (List.mem_append.mp hp).elim (fun h => Nat.ne_of_lt (ll p h)) (fun h => hoff p h _ (List.Mem.head _))
    have hvl := hP.2.1
    have hnl := hP.2.2.1
    simp only [List.cons_append] at N1
    dsimp only at F1 N1 hvl hnl ⊢
    have hsz : vs.toArray.size ≤ 21 := by simp; omega
    have hnow : now.length ≤ 20 := by omega
    cases mood with
    | before =>
      dsimp only [Mood.name] at F1
      (try k_fold)
      k_steps
      · rename (News _ _ _ _) => hN
        rename (((⟨#[n]⟩ : Str) == Str.ofString ",") = _) => s44
        rw [List.push_toArray] at hN
        have hs : lpStep x.length i n (fs, now, Mood.before) = some (fs ++ [now], Str.ofString "", Mood.before) := by simp [lpStep, of_decide_eq_true (sg44 s44)]
        exact ⟨⟨fs ++ [now], vs ++ [_], _, _, _, .before, _⟩, _, _, _, rfl, by assumption, ndrop (a := []) (b := [_]) hN, ⟨rfl, rfl, rfl, rfl, trivial⟩, hP.push hn2 _ _ _ _ hs⟩
      · rename (News _ _ _ _) => hN
        rename (((⟨#[n]⟩ : Str) == Str.ofString ",") = _) => s44
        rename (((⟨#[n]⟩ : Str) == Str.ofString "\"") = _) => s34
        have hs : lpStep x.length i n (fs, now, Mood.before) = some (fs, now, Mood.inside) := by simp [lpStep, of_decide_eq_true (sg34 s34)]
        exact ⟨⟨fs, vs, nn, now, _, .inside, _⟩, _, _, _, rfl, by assumption, hN, ⟨rfl, rfl, rfl, rfl, trivial⟩, hP.more hn2 _ _ (Nat.le_succ _) hs⟩
      · rename (News _ _ _ _) => hN
        rename (((⟨#[n]⟩ : Str) == Str.ofString ",") = _) => s44
        rename (((⟨#[n]⟩ : Str) == Str.ofString "\"") = _) => s34
        rename (((⟨#[n]⟩ : Str) != Str.ofString " ") = _) => s32
        rw [bne, Bool.not_eq_eq_eq_not] at s32
        have hs : lpStep x.length i n (fs, now, Mood.before) = some (fs, (now ++ (⟨#[n]⟩ : Str)), Mood.bare) := by simp [lpStep, of_decide_eq_false (sg44 s44), of_decide_eq_false (sg34 s34), of_decide_eq_false (sg32 s32)]
        exact ⟨⟨fs, vs, nn, (now ++ (⟨#[n]⟩ : Str)), _, .bare, _⟩, _, _, _, rfl, by assumption, ndrop (a := []) (b := [_]) hN, ⟨rfl, rfl, rfl, rfl, trivial⟩, hP.more hn2 _ _ (by dsimp only; rw [Str.length_append]; exact Nat.le_refl _) hs⟩
      · rename (News _ _ _ _) => hN
        rename (((⟨#[n]⟩ : Str) == Str.ofString ",") = _) => s44
        rename (((⟨#[n]⟩ : Str) == Str.ofString "\"") = _) => s34
        rename (((⟨#[n]⟩ : Str) != Str.ofString " ") = _) => s32
        rw [bne, Bool.not_eq_eq_eq_not] at s32
        have hs : lpStep x.length i n (fs, now, Mood.before) = some (fs, now, Mood.before) := by simp [lpStep, of_decide_eq_true (sg32 s32)]
        exact ⟨⟨fs, vs, nn, now, _, .before, _⟩, _, _, _, rfl, by assumption, hN, ⟨rfl, rfl, rfl, rfl, trivial⟩, hP.more hn2 _ _ (Nat.le_succ _) hs⟩
    | inside =>
      dsimp only [Mood.name] at F1
      (try k_fold)
      k_steps
      · rename (News _ _ _ _) => hN
        rename ((i : Int) < _) => hil
        have hil : i < x.length := by omega
        rename (((⟨#[n]⟩ : Str) == Str.ofString "\"") = _) => s34
        have hs : lpStep x.length i n (fs, now, Mood.inside) = some (fs, now, Mood.after) := by simp [lpStep, hil, of_decide_eq_true (sg34 s34)]
        exact ⟨⟨fs, vs, nn, now, _, .after, _⟩, _, _, _, rfl, by assumption, ndrop (a := []) (b := [_]) hN, ⟨rfl, rfl, rfl, rfl, trivial⟩, hP.more hn2 _ _ (Nat.le_succ _) hs⟩
      · rename (News _ _ _ _) => hN
        rename ((i : Int) < _) => hil
        have hil : i < x.length := by omega
        rename (((⟨#[n]⟩ : Str) == Str.ofString "\"") = _) => s34
        have hs : lpStep x.length i n (fs, now, Mood.inside) = some (fs, (now ++ (⟨#[n]⟩ : Str)), Mood.inside) := by simp [lpStep, hil, of_decide_eq_false (sg34 s34)]
        exact ⟨⟨fs, vs, nn, (now ++ (⟨#[n]⟩ : Str)), _, .inside, _⟩, _, _, _, rfl, by assumption, ndrop (a := []) (b := [_]) hN, ⟨rfl, rfl, rfl, rfl, trivial⟩, hP.more hn2 _ _ (by dsimp only; rw [Str.length_append]; exact Nat.le_refl _) hs⟩
      · rename (News _ _ _ _) => hN
        rename (¬ (i : Int) < _) => hil
        have hil : ¬ i < x.length := by omega
        rw [List.push_toArray] at hN
        have hs : lpStep x.length i n (fs, now, Mood.inside) = some (fs ++ [now], Str.ofString "", Mood.before) := by simp [lpStep, hil]
        exact ⟨⟨fs ++ [now], vs ++ [_], _, _, _, .before, _⟩, _, _, _, rfl, by assumption, ndrop (a := []) (b := [_]) hN, ⟨rfl, rfl, rfl, rfl, trivial⟩, hP.push hn2 _ _ _ _ hs⟩
    | after =>
      dsimp only [Mood.name] at F1
      (try k_fold)
      k_steps
      · rename (News _ _ _ _) => hN
        rename (((⟨#[n]⟩ : Str) == Str.ofString ",") = _) => s44
        rw [List.push_toArray] at hN
        have hs : lpStep x.length i n (fs, now, Mood.after) = some (fs ++ [now], Str.ofString "", Mood.before) := by simp [lpStep, of_decide_eq_true (sg44 s44)]
        exact ⟨⟨fs ++ [now], vs ++ [_], _, _, _, .before, _⟩, _, _, _, rfl, by assumption, ndrop (a := []) (b := [_]) hN, ⟨rfl, rfl, rfl, rfl, trivial⟩, hP.push hn2 _ _ _ _ hs⟩
      · rename (((⟨#[n]⟩ : Str) == Str.ofString ",") = _) => s44
        rename (((⟨#[n]⟩ : Str) != Str.ofString " ") = _) => s32
        rw [bne, Bool.not_eq_eq_eq_not] at s32
        have hs : lpStep x.length i n (fs, now, Mood.after) = none := by simp [lpStep, of_decide_eq_false (sg44 s44), of_decide_eq_false (sg32 s32)]
        exact hret.1 (hP.fell hn2 hs) _ _ (by k_asm) (has_take (r := own) (ndrop (a := []) (b := [_]) (by k_asm)))
      · rename (News _ _ _ _) => hN
        rename (((⟨#[n]⟩ : Str) == Str.ofString ",") = _) => s44
        rename (((⟨#[n]⟩ : Str) != Str.ofString " ") = _) => s32
        rw [bne, Bool.not_eq_eq_eq_not] at s32
        have hs : lpStep x.length i n (fs, now, Mood.after) = some (fs, now, Mood.after) := by simp [lpStep, of_decide_eq_true (sg32 s32)]
        exact ⟨⟨fs, vs, nn, now, _, .after, _⟩, _, _, _, rfl, by assumption, hN, ⟨rfl, rfl, rfl, rfl, trivial⟩, hP.more hn2 _ _ (Nat.le_succ _) hs⟩
    | bare =>
      dsimp only [Mood.name] at F1
      (try k_fold)
      k_steps
      · rename (News _ _ _ _) => hN
        rename (((⟨#[n]⟩ : Str) == Str.ofString ",") = _) => s44
        rw [List.push_toArray] at hN
        have hs : lpStep x.length i n (fs, now, Mood.bare) = some (fs ++ [(Txt.rstripChars now (Str.ofString " "))], Str.ofString "", Mood.before) := by simp [lpStep, of_decide_eq_true (sg44 s44)]
        exact ⟨⟨fs ++ [(Txt.rstripChars now (Str.ofString " "))], vs ++ [_], _, _, _, .before, _⟩, _, _, _, rfl, by assumption, ndrop (a := []) (b := [_]) hN, ⟨rfl, rfl, rfl, rfl, trivial⟩, hP.push hn2 _ _ _ _ hs⟩
      · rename (News _ _ _ _) => hN
        rename (((⟨#[n]⟩ : Str) == Str.ofString ",") = _) => s44
        have hs : lpStep x.length i n (fs, now, Mood.bare) = some (fs, (now ++ (⟨#[n]⟩ : Str)), Mood.bare) := by simp [lpStep, of_decide_eq_false (sg44 s44)]
        exact ⟨⟨fs, vs, nn, (now ++ (⟨#[n]⟩ : Str)), _, .bare, _⟩, _, _, _, rfl, by assumption, ndrop (a := []) (b := [_]) hN, ⟨rfl, rfl, rfl, rfl, trivial⟩, hP.more hn2 _ _ (by dsimp only; rw [Str.length_append]; exact Nat.le_refl _) hs⟩
end Mine
end
section
namespace Mine
theorem startC9 : True := by
  w_top off
  trivial
end Mine
open PySem PySem.W PyProof.Rows PySem.Calls PyProof.V PySem.Spec
open PyProof.Rows.LCp PyProof.Rows.LCg
namespace Mine

noncomputable def valP (k f : Str) : PyData := (valF k f).getD .none
noncomputable def isND : PyData → Bool
  | .none => true
  | _ => false
theorem valF_cases (k f : Str) : (valF k f = none ∧ valP k f = .none) ∨ ∃ d, valF k f = some d ∧ valP k f = d ∧ isND d = false := by
  unfold valP
  rcases h : valF k f with _ | d
  · exact .inl ⟨rfl, rfl⟩
  · refine .inr ⟨d, rfl, rfl, ?_⟩
    unfold valF at h
    split at h
    · cases h; rfl
    · split at h
      · cases h; rfl
      · cases hn : numF f with
        | none => rw [hn] at h; cases h
        | some n => rw [hn] at h; cases h; rfl
theorem fitL_zip : ∀ (ks fs : List Str), fs.length = ks.length → fitL ks fs = if ((List.zipWith valP ks fs).filter isND).isEmpty = true then some (List.zipWith valP ks fs) else none
  | [], [], _ => rfl
  | k :: ks, f :: fs, h => by
    have ih := fitL_zip ks fs (by simpa using h)
    rcases valF_cases k f with ⟨h1, h2⟩ | ⟨d, h1, h2, h3⟩
    · rw [fitL_none h1, List.zipWith_cons_cons, h2, List.filter_cons_of_pos rfl]
      rfl
    · rw [fitL_some h1, List.zipWith_cons_cons, h2, List.filter_cons_of_neg (by rw [h3]; exact Bool.false_ne_true), ih]
      split <;> rfl
  | [], _ :: _, h => by cases h
  | _ :: _, [], h => by cases h
theorem nones_lay : ∀ (ds : List PyData), PyData.canLayAll0 (ds.filter isND) = true ∧ PyData.depthAll (ds.filter isND) = 0
  | [] => ⟨rfl, rfl⟩
  | d :: ds => by
    have ih := nones_lay ds
    cases d with
    | none => rw [List.filter_cons_of_pos rfl]; simp [PyData.canLayAll0, PyData.canLay0, PyData.depthAll, PyData.depth, ih]
    | _ => rw [List.filter_cons_of_neg (by intro h; cases h)]; exact ih
theorem shaped_nones (ds : List PyData) : SeqAt.shaped (.list (ds.filter isND)) = true := by
  have := nones_lay ds
  simp [SeqAt.shaped, PyData.canLay0, PyData.depth, this]
theorem eqv_nil (ds : List PyData) : PyData.eqv (.list ds) (.list []) = ds.isEmpty := by
  cases ds <;> simp [PyData.eqv, PyData.eqvAll]
theorem carried_at : ∀ {vs : List Value} {ds : List PyData}, CarriedAll vs ds → ∀ {i : Nat} {v : Value}, vs[i]? = some v → ∃ d, ds[i]? = some d ∧ Carried v d
  | _, _, .cons h r, 0, v, e => by cases e; exact ⟨_, rfl, h⟩
  | _, _, .cons h r, i + 1, v, e => by simpa using carried_at r (i := i) (v := v) (by simpa using e)
theorem take_one {α : Type} {l : List α} {i : Nat} {a : α} (h : l[i]? = some a) : l.take (i + 1) = l.take i ++ [a] := by
  rw [List.take_add_one, h]; rfl
theorem zw_at {ks fs : List Str} {i : Nat} {k f : Str} (hk : ks[i]? = some k) (hf : fs[i]? = some f) : (List.zipWith valP ks fs)[i]? = some (valP k f) := by
  rw [List.getElem?_zipWith, hk, hf]
local macro_rules | `(tactic| walk_at "exec Assign cons ListComp") => `(tactic| ((fail_if_success (rename StopOff => x9)); refine Stop.out ?_))
local macro_rules | `(tactic| walk_at "eval ListComp") => `(tactic| (refine Stop.out ?_))
local macro_rules | `(tactic| walk_at "call type:zip cons") => `(tactic| (refine Stop.out ?_))
set_option maxHeartbeats 4000000 in
theorem law_fitted_c (w : World) (x : Str) (tx : Tok) (ka : Addr) (kvs : List Value) (nk : Nat) (ks : List Str) (hks : StrsAre kvs ks) (hkl : ks.length ≤ 3) (hx : x.length ≤ 20) (hxo : PyData.strOk x = true) (hpt : lawPartedF x = partedF x) (news : List (Addr × Obj)) (hmem : (ka, W.listOf kvs.toArray nk) ∈ news) :
    Ctr w 195 5 256 [.ref ka, .str x tx] news (fun base L h₀ m s Q E => RetD h₀ L m s Q news (fitF ks x)) := by
  unfold Ctr
  k_fill
  intro p loose mean mg mb dp un gd cn cs a ccd cl outer A₀ base h₀ L m s Q E B F X N T hk hdp hu hret
  refine wpAny_call ?_
  k_dflt ktr_enter
  show (let aw : PySem.Around := _; let ev : PySem.Env := _; wpAny _ aw (execs _ ev) _ _ _)
  intro aw ev
  (repeat' (first | ((fail_if_success (fail_if_success (with_reducible show wpAny _ _ (compareOp CmpOp.NotEq (Value.ref _) (Value.ref _)) _ _ _))); (k_here; (with_reducible show wpAny _ _ (compareOp CmpOp.NotEq (Value.ref _) (Value.ref _)) _ _ _); k_dflt (refine' ne_dataH (reads_newData (ds := List.filter isND _) ?zqa ?zqb) (reads_newData (ds := []) ?zqc .nil) ?zqd ?zqe ?zqf ?_; (case zqa => exact News.isList (by k_asm) (by k_mem)); (case zqb => with_reducible assumption); (case zqc => exact News.isList (by k_asm) (by k_mem)); (case zqd => exact shaped_nones _); (case zqe => rfl); (case zqf => exact (Mine.rm2 hu rfl : un + 3 + 64 < cLine)); rw [eqv_nil]))) | ((fail_if_success (fail_if_success (with_reducible show wpAny _ _ (call (Value.builtin "len") (_ :: _)) _ _ _))); (k_here; (with_reducible show wpAny _ _ (call (Value.builtin "len") [Value.ref _]) _ _ _); k_dflt (refine' len_strsA (News.isList ?zqa ?zqa2) ?zqb ?zqc ?_; (case zqa => k_asm); (case zqa2 => first | assumption | exact List.Mem.head _ | (refine List.Mem.tail _ ?_; first | assumption | exact List.Mem.head _)); (case zqb => assumption); (case zqc => first | omega | ((have hl := parted_len ((by assumption : lawPartedF _ = partedF _) ▸ (by assumption : lawPartedF _ = some _)) (by assumption)); omega)); k_whole))) | ((fail_if_success (fail_if_success (with_reducible show wpAny _ _ (call (Value.ref _) (_ :: _)) _ _ _))); (k_here; k_dflt (refine' law_value_c _ _ _ _ _ ?zqcx ?zqco _ _ _ _ _ _ _ _ _ _ _ _ _ _ _ _ _ _ _ _ _ _ _ ?zqk1 ?zqk2 ?zqk3 ?zqk4 ?zqk5 ?zqkK ?zqkd ?zqku ?_; (case zqk1 => k_asm); (case zqk2 => k_asm); (case zqk3 => k_asm); (case zqk4 => k_asm); (case zqk5 => k_asm); (case zqkK => first | exact rfl | assumption); (case zqcx => first | assumption | omega); (case zqco => assumption); (case zqkd => ktr_room); (case zqku => ktr_units); refine ⟨fun hvf hkt => ?zqvf1, fun hkt => ?zqvf2, fun k9 hvf hkt => ?zqvf3⟩; (case' zqvf1 => first | exact absurd hkt (by decide) | (refine Ret.use ?_; intro t9 h9 tk9 F9 N9; (try dsimp only); (try k_fold))); (case' zqvf2 => first | exact absurd hkt (by decide) | (refine Ret.use ?_; intro t9 h9 tk9 F9 N9; (try dsimp only); (try k_fold))); (case' zqvf3 => first | exact absurd hkt (by decide) | (refine Ret.use ?_; intro t9 h9 tk9 F9 N9; (try dsimp only); (try k_fold)))))) | ((fail_if_success (fail_if_success (with_reducible show wpAny _ _ (call (Value.ref _) (_ :: _)) _ _ _))); (k_here; k_dflt (refine' law_parted_c _ _ _ ?zqcx _ _ _ _ _ _ _ _ _ _ _ _ _ _ _ _ _ _ _ _ _ _ _ ?zqk1 ?zqk2 ?zqk3 ?zqk4 ?zqk5 ?zqkK ?zqkd ?zqku ?_; (case zqk1 => k_asm); (case zqk2 => k_asm); (case zqk3 => k_asm); (case zqk4 => k_asm); (case zqk5 => k_asm); (case zqkK => first | exact rfl | assumption); (case zqcx => first | assumption | omega); (case zqkd => ktr_room); (case zqku => ktr_units); refine ⟨fun hpf => ?zqpf1, fun fs9 hpf => ?zqpf2⟩; (case' zqpf1 => (intro h9 tk9 F9 N9; (try dsimp only); (try k_fold))); (case' zqpf2 => (intro vs9 n9 l9' h9 tk9 sa9 F9 N9 l9; (try k_lt l9); (try dsimp only); (try k_fold)))))) | (k_unfold; (try dsimp only)) | (k_end; wrow_close) | walk1 | (dsimp only; first | walk1 | (fail_if_success (fail_if_success (with_reducible show wpAny _ _ (call (Value.builtin "len") (_ :: _)) _ _ _))) | (fail_if_success (fail_if_success (with_reducible show wpAny _ _ (call (Value.ref _) (_ :: _)) _ _ _))) | (fail_if_success (fail_if_success (with_reducible show wpAny _ _ (compareOp CmpOp.NotEq (Value.ref _) (Value.ref _)) _ _ _)))) | (leave1; walk_say "STEP leave1"; try dsimp only) | fail "no step"))
  · rename (lawPartedF x = _) => hp
    rename (((List.length _ : Nat) : Int) ≠ _) => hlen
    have hT : fitF ks x = none := by unfold fitF; rw [← hpt, hp]; exact if_neg (fun h => hlen (by rw [h]))
    exact hret.1 hT 0 _ _ _ rfl (by k_asm) (ndrop (a := []) (b := [_]) (by k_asm))
  · refine Stop.mk ?_
    rename (lawPartedF x = _) => hp
    rename (((List.length _ : Nat) : Int) = _) => hlen
    rename (StrsAre _ _) => hfs
    (rename Fr _ _ _ _ => lF)
    (rename News _ _ _ _ => lN)
    (rename (∀ p ∈ news, p.1 < _) => ll)
    have hsub := parted_sub (hpt ▸ hp) hx hxo
    have hlen2 := Int.ofNat_inj.mp hlen
    refine nameEq hp ?_
    intro fs efs
    subst efs
    have hT : fitF ks x = fitL ks fs := by unfold fitF; rw [← hpt, hp]; exact if_pos hlen2
    have so : StopOff := .mk
    refine gc_assign lF rfl (by with_unfolding_all rfl) (by with_unfolding_all rfl) (by decide) rfl (by decide) rfl rfl ?_
    (repeat' (first | ((fail_if_success (fail_if_success (with_reducible show wpAny _ _ (compareOp CmpOp.NotEq (Value.ref _) (Value.ref _)) _ _ _))); (k_here; (with_reducible show wpAny _ _ (compareOp CmpOp.NotEq (Value.ref _) (Value.ref _)) _ _ _); k_dflt (refine' ne_dataH (reads_newData (ds := List.filter isND _) ?zqa ?zqb) (reads_newData (ds := []) ?zqc .nil) ?zqd ?zqe ?zqf ?_; (case zqa => exact News.isList (by k_asm) (by k_mem)); (case zqb => with_reducible assumption); (case zqc => exact News.isList (by k_asm) (by k_mem)); (case zqd => exact shaped_nones _); (case zqe => rfl); (case zqf => exact (Mine.rm2 hu rfl : un + 3 + 64 < cLine)); rw [eqv_nil]))) | ((fail_if_success (fail_if_success (with_reducible show wpAny _ _ (call (Value.builtin "len") (_ :: _)) _ _ _))); (k_here; (with_reducible show wpAny _ _ (call (Value.builtin "len") [Value.ref _]) _ _ _); k_dflt (refine' len_strsA (News.isList ?zqa ?zqa2) ?zqb ?zqc ?_; (case zqa => k_asm); (case zqa2 => first | assumption | exact List.Mem.head _ | (refine List.Mem.tail _ ?_; first | assumption | exact List.Mem.head _)); (case zqb => assumption); (case zqc => first | omega | ((have hl := parted_len ((by assumption : lawPartedF _ = partedF _) ▸ (by assumption : lawPartedF _ = some _)) (by assumption)); omega)); k_whole))) | ((fail_if_success (fail_if_success (with_reducible show wpAny _ _ (call (Value.ref _) (_ :: _)) _ _ _))); (k_here; k_dflt (refine' law_value_c _ _ _ _ _ ?zqcx ?zqco _ _ _ _ _ _ _ _ _ _ _ _ _ _ _ _ _ _ _ _ _ _ _ ?zqk1 ?zqk2 ?zqk3 ?zqk4 ?zqk5 ?zqkK ?zqkd ?zqku ?_; (case zqk1 => k_asm); (case zqk2 => k_asm); (case zqk3 => k_asm); (case zqk4 => k_asm); (case zqk5 => k_asm); (case zqkK => first | exact rfl | assumption); (case zqcx => first | assumption | omega); (case zqco => assumption); (case zqkd => ktr_room); (case zqku => ktr_units); refine ⟨fun hvf hkt => ?zqvf1, fun hkt => ?zqvf2, fun k9 hvf hkt => ?zqvf3⟩; (case' zqvf1 => first | exact absurd hkt (by decide) | (refine Ret.use ?_; intro t9 h9 tk9 F9 N9; (try dsimp only); (try k_fold))); (case' zqvf2 => first | exact absurd hkt (by decide) | (refine Ret.use ?_; intro t9 h9 tk9 F9 N9; (try dsimp only); (try k_fold))); (case' zqvf3 => first | exact absurd hkt (by decide) | (refine Ret.use ?_; intro t9 h9 tk9 F9 N9; (try dsimp only); (try k_fold)))))) | ((fail_if_success (fail_if_success (with_reducible show wpAny _ _ (call (Value.ref _) (_ :: _)) _ _ _))); (k_here; k_dflt (refine' law_parted_c _ _ _ ?zqcx _ _ _ _ _ _ _ _ _ _ _ _ _ _ _ _ _ _ _ _ _ _ _ ?zqk1 ?zqk2 ?zqk3 ?zqk4 ?zqk5 ?zqkK ?zqkd ?zqku ?_; (case zqk1 => k_asm); (case zqk2 => k_asm); (case zqk3 => k_asm); (case zqk4 => k_asm); (case zqk5 => k_asm); (case zqkK => first | exact rfl | assumption); (case zqcx => first | assumption | omega); (case zqkd => ktr_room); (case zqku => ktr_units); refine ⟨fun hpf => ?zqpf1, fun fs9 hpf => ?zqpf2⟩; (case' zqpf1 => (intro h9 tk9 F9 N9; (try dsimp only); (try k_fold))); (case' zqpf2 => (intro vs9 n9 l9' h9 tk9 sa9 F9 N9 l9; (try k_lt l9); (try dsimp only); (try k_fold)))))) | (k_unfold; (try dsimp only)) | (k_end; wrow_close) | walk1 | (dsimp only; first | walk1 | (fail_if_success (fail_if_success (with_reducible show wpAny _ _ (call (Value.builtin "len") (_ :: _)) _ _ _))) | (fail_if_success (fail_if_success (with_reducible show wpAny _ _ (call (Value.ref _) (_ :: _)) _ _ _))) | (fail_if_success (fail_if_success (with_reducible show wpAny _ _ (compareOp CmpOp.NotEq (Value.ref _) (Value.ref _)) _ _ _)))) | (leave1; walk_say "STEP leave1"; try dsimp only) | fail "no step"))
    refine Stop.mk ?_
    refine nameBy ll ?_
    intro lf e
    subst e
    refine gs_zip (fun i ys nx => nx = (lf, W.listOf _ _) :: news ∧ CarriedAll ys ((List.zipWith valP ks fs).take i)) rfl lF lN (List.Mem.head _) (List.Mem.tail _ hmem) hfs hks (by rw [sizeLine_eq]; omega) rfl rfl rfl (by decide) ⟨rfl, .nil⟩ ?turn ?fin
    case turn =>
      rintro s' ⟨hp', rfl⟩
      intro i ys nx C oC D m₂ own h tk E' hi hPP hJ hoC F1 N1
      obtain ⟨rfl, hys⟩ := hJ
      obtain ⟨v0, v1, ⟨a, b, ta, tb, ha, hb, rfl, rfl⟩, hm1, hm2⟩ := hPP
      obtain ⟨hf1, hf2⟩ := hsub _ (List.mem_of_getElem? ha)
      clear lF lN
      dsimp only
      (try k_fold)
      have hz := zw_at hb ha
      (repeat' (first | ((fail_if_success (fail_if_success (with_reducible show wpAny _ _ (compareOp CmpOp.NotEq (Value.ref _) (Value.ref _)) _ _ _))); (k_here; (with_reducible show wpAny _ _ (compareOp CmpOp.NotEq (Value.ref _) (Value.ref _)) _ _ _); k_dflt (refine' ne_dataH (reads_newData (ds := List.filter isND _) ?zqa ?zqb) (reads_newData (ds := []) ?zqc .nil) ?zqd ?zqe ?zqf ?_; (case zqa => exact News.isList (by k_asm) (by k_mem)); (case zqb => with_reducible assumption); (case zqc => exact News.isList (by k_asm) (by k_mem)); (case zqd => exact shaped_nones _); (case zqe => rfl); (case zqf => exact (Mine.rm2 hu rfl : un + 3 + 64 < cLine)); rw [eqv_nil]))) | ((fail_if_success (fail_if_success (with_reducible show wpAny _ _ (call (Value.builtin "len") (_ :: _)) _ _ _))); (k_here; (with_reducible show wpAny _ _ (call (Value.builtin "len") [Value.ref _]) _ _ _); k_dflt (refine' len_strsA (News.isList ?zqa ?zqa2) ?zqb ?zqc ?_; (case zqa => k_asm); (case zqa2 => first | assumption | exact List.Mem.head _ | (refine List.Mem.tail _ ?_; first | assumption | exact List.Mem.head _)); (case zqb => assumption); (case zqc => first | omega | ((have hl := parted_len ((by assumption : lawPartedF _ = partedF _) ▸ (by assumption : lawPartedF _ = some _)) (by assumption)); omega)); k_whole))) | ((fail_if_success (fail_if_success (with_reducible show wpAny _ _ (call (Value.ref _) (_ :: _)) _ _ _))); (k_here; k_dflt (refine' law_value_c _ _ _ _ _ ?zqcx ?zqco _ _ _ _ _ _ _ _ _ _ _ _ _ _ _ _ _ _ _ _ _ _ _ ?zqk1 ?zqk2 ?zqk3 ?zqk4 ?zqk5 ?zqkK ?zqkd ?zqku ?_; (case zqk1 => k_asm); (case zqk2 => k_asm); (case zqk3 => k_asm); (case zqk4 => k_asm); (case zqk5 => k_asm); (case zqkK => first | exact rfl | assumption); (case zqcx => first | assumption | omega); (case zqco => assumption); (case zqkd => ktr_room); (case zqku => ktr_units); refine ⟨fun hvf hkt => ?zqvf1, fun hkt => ?zqvf2, fun k9 hvf hkt => ?zqvf3⟩; (case' zqvf1 => first | exact absurd hkt (by decide) | (refine Ret.use ?_; intro t9 h9 tk9 F9 N9; (try dsimp only); (try k_fold))); (case' zqvf2 => first | exact absurd hkt (by decide) | (refine Ret.use ?_; intro t9 h9 tk9 F9 N9; (try dsimp only); (try k_fold))); (case' zqvf3 => first | exact absurd hkt (by decide) | (refine Ret.use ?_; intro t9 h9 tk9 F9 N9; (try dsimp only); (try k_fold)))))) | ((fail_if_success (fail_if_success (with_reducible show wpAny _ _ (call (Value.ref _) (_ :: _)) _ _ _))); (k_here; k_dflt (refine' law_parted_c _ _ _ ?zqcx _ _ _ _ _ _ _ _ _ _ _ _ _ _ _ _ _ _ _ _ _ _ _ ?zqk1 ?zqk2 ?zqk3 ?zqk4 ?zqk5 ?zqkK ?zqkd ?zqku ?_; (case zqk1 => k_asm); (case zqk2 => k_asm); (case zqk3 => k_asm); (case zqk4 => k_asm); (case zqk5 => k_asm); (case zqkK => first | exact rfl | assumption); (case zqcx => first | assumption | omega); (case zqkd => ktr_room); (case zqku => ktr_units); refine ⟨fun hpf => ?zqpf1, fun fs9 hpf => ?zqpf2⟩; (case' zqpf1 => (intro h9 tk9 F9 N9; (try dsimp only); (try k_fold))); (case' zqpf2 => (intro vs9 n9 l9' h9 tk9 sa9 F9 N9 l9; (try k_lt l9); (try dsimp only); (try k_fold)))))) | (k_unfold; (try dsimp only)) | (k_end; wrow_close) | walk1 | (dsimp only; first | walk1 | (fail_if_success (fail_if_success (with_reducible show wpAny _ _ (call (Value.builtin "len") (_ :: _)) _ _ _))) | (fail_if_success (fail_if_success (with_reducible show wpAny _ _ (call (Value.ref _) (_ :: _)) _ _ _))) | (fail_if_success (fail_if_success (with_reducible show wpAny _ _ (compareOp CmpOp.NotEq (Value.ref _) (Value.ref _)) _ _ _)))) | (leave1; walk_say "STEP leave1"; try dsimp only) | fail "no step"))
      · rename (valF b a = _) => hv
        refine ⟨_, _, _, rfl, by k_asm, by k_asm, fun p hp => .inl ⟨p, hp, rfl⟩, rfl, ?_⟩
        rw [take_one hz]
        exact carried_snoc hys (by unfold valP; rw [hv]; exact .int _ _)
      · rename ((b == _) = true) => hv
        refine ⟨_, _, _, rfl, by k_asm, by k_asm, fun p hp => .inl ⟨p, hp, rfl⟩, rfl, ?_⟩
        rw [take_one hz]
        exact carried_snoc hys (by unfold valP; rw [valF_text hv]; exact .str _ _)
      · rename (valF b a = _) => hv
        refine ⟨_, _, _, rfl, by k_asm, by k_asm, fun p hp => .inl ⟨p, hp, rfl⟩, rfl, ?_⟩
        rw [take_one hz]
        exact carried_snoc hys (by unfold valP; rw [hv]; exact .none)
    case fin =>
      rintro s' ⟨hp', rfl⟩
      intro D ys nx hD1 hD2 hJ
      obtain ⟨rfl, hys⟩ := hJ
      intro h tk F1 N1
      clear lF lN
      dsimp only
      have hzl : (List.zipWith valP ks fs).length = min fs.length ks.length := by rw [List.length_zipWith, Nat.min_comm]
      rw [← hzl, List.take_length] at hys
      have hyl := hys.length_eq
      (repeat' (first | ((fail_if_success (fail_if_success (with_reducible show wpAny _ _ (compareOp CmpOp.NotEq (Value.ref _) (Value.ref _)) _ _ _))); (k_here; (with_reducible show wpAny _ _ (compareOp CmpOp.NotEq (Value.ref _) (Value.ref _)) _ _ _); k_dflt (refine' ne_dataH (reads_newData (ds := List.filter isND _) ?zqa ?zqb) (reads_newData (ds := []) ?zqc .nil) ?zqd ?zqe ?zqf ?_; (case zqa => exact News.isList (by k_asm) (by k_mem)); (case zqb => with_reducible assumption); (case zqc => exact News.isList (by k_asm) (by k_mem)); (case zqd => exact shaped_nones _); (case zqe => rfl); (case zqf => exact (Mine.rm2 hu rfl : un + 3 + 64 < cLine)); rw [eqv_nil]))) | ((fail_if_success (fail_if_success (with_reducible show wpAny _ _ (call (Value.builtin "len") (_ :: _)) _ _ _))); (k_here; (with_reducible show wpAny _ _ (call (Value.builtin "len") [Value.ref _]) _ _ _); k_dflt (refine' len_strsA (News.isList ?zqa ?zqa2) ?zqb ?zqc ?_; (case zqa => k_asm); (case zqa2 => first | assumption | exact List.Mem.head _ | (refine List.Mem.tail _ ?_; first | assumption | exact List.Mem.head _)); (case zqb => assumption); (case zqc => first | omega | ((have hl := parted_len ((by assumption : lawPartedF _ = partedF _) ▸ (by assumption : lawPartedF _ = some _)) (by assumption)); omega)); k_whole))) | ((fail_if_success (fail_if_success (with_reducible show wpAny _ _ (call (Value.ref _) (_ :: _)) _ _ _))); (k_here; k_dflt (refine' law_value_c _ _ _ _ _ ?zqcx ?zqco _ _ _ _ _ _ _ _ _ _ _ _ _ _ _ _ _ _ _ _ _ _ _ ?zqk1 ?zqk2 ?zqk3 ?zqk4 ?zqk5 ?zqkK ?zqkd ?zqku ?_; (case zqk1 => k_asm); (case zqk2 => k_asm); (case zqk3 => k_asm); (case zqk4 => k_asm); (case zqk5 => k_asm); (case zqkK => first | exact rfl | assumption); (case zqcx => first | assumption | omega); (case zqco => assumption); (case zqkd => ktr_room); (case zqku => ktr_units); refine ⟨fun hvf hkt => ?zqvf1, fun hkt => ?zqvf2, fun k9 hvf hkt => ?zqvf3⟩; (case' zqvf1 => first | exact absurd hkt (by decide) | (refine Ret.use ?_; intro t9 h9 tk9 F9 N9; (try dsimp only); (try k_fold))); (case' zqvf2 => first | exact absurd hkt (by decide) | (refine Ret.use ?_; intro t9 h9 tk9 F9 N9; (try dsimp only); (try k_fold))); (case' zqvf3 => first | exact absurd hkt (by decide) | (refine Ret.use ?_; intro t9 h9 tk9 F9 N9; (try dsimp only); (try k_fold)))))) | ((fail_if_success (fail_if_success (with_reducible show wpAny _ _ (call (Value.ref _) (_ :: _)) _ _ _))); (k_here; k_dflt (refine' law_parted_c _ _ _ ?zqcx _ _ _ _ _ _ _ _ _ _ _ _ _ _ _ _ _ _ _ _ _ _ _ ?zqk1 ?zqk2 ?zqk3 ?zqk4 ?zqk5 ?zqkK ?zqkd ?zqku ?_; (case zqk1 => k_asm); (case zqk2 => k_asm); (case zqk3 => k_asm); (case zqk4 => k_asm); (case zqk5 => k_asm); (case zqkK => first | exact rfl | assumption); (case zqcx => first | assumption | omega); (case zqkd => ktr_room); (case zqku => ktr_units); refine ⟨fun hpf => ?zqpf1, fun fs9 hpf => ?zqpf2⟩; (case' zqpf1 => (intro h9 tk9 F9 N9; (try dsimp only); (try k_fold))); (case' zqpf2 => (intro vs9 n9 l9' h9 tk9 sa9 F9 N9 l9; (try k_lt l9); (try dsimp only); (try k_fold)))))) | (k_unfold; (try dsimp only)) | (k_end; wrow_close) | walk1 | (dsimp only; first | walk1 | (fail_if_success (fail_if_success (with_reducible show wpAny _ _ (call (Value.builtin "len") (_ :: _)) _ _ _))) | (fail_if_success (fail_if_success (with_reducible show wpAny _ _ (call (Value.ref _) (_ :: _)) _ _ _))) | (fail_if_success (fail_if_success (with_reducible show wpAny _ _ (compareOp CmpOp.NotEq (Value.ref _) (Value.ref _)) _ _ _)))) | (leave1; walk_say "STEP leave1"; try dsimp only) | fail "no step"))
      refine Stop.mk ?_
      refine gc_eval F1 (by with_unfolding_all rfl) (by decide) rfl (by decide) ?_
      (repeat' (first | ((fail_if_success (fail_if_success (with_reducible show wpAny _ _ (compareOp CmpOp.NotEq (Value.ref _) (Value.ref _)) _ _ _))); (k_here; (with_reducible show wpAny _ _ (compareOp CmpOp.NotEq (Value.ref _) (Value.ref _)) _ _ _); k_dflt (refine' ne_dataH (reads_newData (ds := List.filter isND _) ?zqa ?zqb) (reads_newData (ds := []) ?zqc .nil) ?zqd ?zqe ?zqf ?_; (case zqa => exact News.isList (by k_asm) (by k_mem)); (case zqb => with_reducible assumption); (case zqc => exact News.isList (by k_asm) (by k_mem)); (case zqd => exact shaped_nones _); (case zqe => rfl); (case zqf => exact (Mine.rm2 hu rfl : un + 3 + 64 < cLine)); rw [eqv_nil]))) | ((fail_if_success (fail_if_success (with_reducible show wpAny _ _ (call (Value.builtin "len") (_ :: _)) _ _ _))); (k_here; (with_reducible show wpAny _ _ (call (Value.builtin "len") [Value.ref _]) _ _ _); k_dflt (refine' len_strsA (News.isList ?zqa ?zqa2) ?zqb ?zqc ?_; (case zqa => k_asm); (case zqa2 => first | assumption | exact List.Mem.head _ | (refine List.Mem.tail _ ?_; first | assumption | exact List.Mem.head _)); (case zqb => assumption); (case zqc => first | omega | ((have hl := parted_len ((by assumption : lawPartedF _ = partedF _) ▸ (by assumption : lawPartedF _ = some _)) (by assumption)); omega)); k_whole))) | ((fail_if_success (fail_if_success (with_reducible show wpAny _ _ (call (Value.ref _) (_ :: _)) _ _ _))); (k_here; k_dflt (refine' law_value_c _ _ _ _ _ ?zqcx ?zqco _ _ _ _ _ _ _ _ _ _ _ _ _ _ _ _ _ _ _ _ _ _ _ ?zqk1 ?zqk2 ?zqk3 ?zqk4 ?zqk5 ?zqkK ?zqkd ?zqku ?_; (case zqk1 => k_asm); (case zqk2 => k_asm); (case zqk3 => k_asm); (case zqk4 => k_asm); (case zqk5 => k_asm); (case zqkK => first | exact rfl | assumption); (case zqcx => first | assumption | omega); (case zqco => assumption); (case zqkd => ktr_room); (case zqku => ktr_units); refine ⟨fun hvf hkt => ?zqvf1, fun hkt => ?zqvf2, fun k9 hvf hkt => ?zqvf3⟩; (case' zqvf1 => first | exact absurd hkt (by decide) | (refine Ret.use ?_; intro t9 h9 tk9 F9 N9; (try dsimp only); (try k_fold))); (case' zqvf2 => first | exact absurd hkt (by decide) | (refine Ret.use ?_; intro t9 h9 tk9 F9 N9; (try dsimp only); (try k_fold))); (case' zqvf3 => first | exact absurd hkt (by decide) | (refine Ret.use ?_; intro t9 h9 tk9 F9 N9; (try dsimp only); (try k_fold)))))) | ((fail_if_success (fail_if_success (with_reducible show wpAny _ _ (call (Value.ref _) (_ :: _)) _ _ _))); (k_here; k_dflt (refine' law_parted_c _ _ _ ?zqcx _ _ _ _ _ _ _ _ _ _ _ _ _ _ _ _ _ _ _ _ _ _ _ ?zqk1 ?zqk2 ?zqk3 ?zqk4 ?zqk5 ?zqkK ?zqkd ?zqku ?_; (case zqk1 => k_asm); (case zqk2 => k_asm); (case zqk3 => k_asm); (case zqk4 => k_asm); (case zqk5 => k_asm); (case zqkK => first | exact rfl | assumption); (case zqcx => first | assumption | omega); (case zqkd => ktr_room); (case zqku => ktr_units); refine ⟨fun hpf => ?zqpf1, fun fs9 hpf => ?zqpf2⟩; (case' zqpf1 => (intro h9 tk9 F9 N9; (try dsimp only); (try k_fold))); (case' zqpf2 => (intro vs9 n9 l9' h9 tk9 sa9 F9 N9 l9; (try k_lt l9); (try dsimp only); (try k_fold)))))) | (k_unfold; (try dsimp only)) | (k_end; wrow_close) | walk1 | (dsimp only; first | walk1 | (fail_if_success (fail_if_success (with_reducible show wpAny _ _ (call (Value.builtin "len") (_ :: _)) _ _ _))) | (fail_if_success (fail_if_success (with_reducible show wpAny _ _ (call (Value.ref _) (_ :: _)) _ _ _))) | (fail_if_success (fail_if_success (with_reducible show wpAny _ _ (compareOp CmpOp.NotEq (Value.ref _) (Value.ref _)) _ _ _)))) | (leave1; walk_say "STEP leave1"; try dsimp only) | fail "no step"))
      refine gs_list (fun i ys2 nx => nx = (D, lst ys) :: (lf, W.listOf _ _) :: news ∧ CarriedAll ys2 (((List.zipWith valP ks fs).take i).filter isND)) rfl F1 N1 (News.isList N1 (List.Mem.head _)) (N1 _ (List.Mem.head _)).2.1 (by rw [sizeLine_eq]; simp; omega) rfl rfl ⟨rfl, .nil⟩ ?turn2 ?fin2
      case turn2 =>
        rintro s' ⟨hp', rfl⟩
        intro i ys2 nx C oC D2 m₂ own h2 tk2 E' hi hPP hJ hoC F2 N2
        obtain ⟨rfl, hys2⟩ := hJ
        obtain ⟨v, hv, hm⟩ := hPP
        obtain ⟨d, hd, hc⟩ := carried_at hys (i := i) (v := v) (by simpa using hv)
        clear F1 N1
        have ht1 := take_one hd
        cases hc with
        | none =>
          dsimp only
          (try k_fold)
          (repeat' (first | ((fail_if_success (fail_if_success (with_reducible show wpAny _ _ (compareOp CmpOp.NotEq (Value.ref _) (Value.ref _)) _ _ _))); (k_here; (with_reducible show wpAny _ _ (compareOp CmpOp.NotEq (Value.ref _) (Value.ref _)) _ _ _); k_dflt (refine' ne_dataH (reads_newData (ds := List.filter isND _) ?zqa ?zqb) (reads_newData (ds := []) ?zqc .nil) ?zqd ?zqe ?zqf ?_; (case zqa => exact News.isList (by k_asm) (by k_mem)); (case zqb => with_reducible assumption); (case zqc => exact News.isList (by k_asm) (by k_mem)); (case zqd => exact shaped_nones _); (case zqe => rfl); (case zqf => exact (Mine.rm2 hu rfl : un + 3 + 64 < cLine)); rw [eqv_nil]))) | ((fail_if_success (fail_if_success (with_reducible show wpAny _ _ (call (Value.builtin "len") (_ :: _)) _ _ _))); (k_here; (with_reducible show wpAny _ _ (call (Value.builtin "len") [Value.ref _]) _ _ _); k_dflt (refine' len_strsA (News.isList ?zqa ?zqa2) ?zqb ?zqc ?_; (case zqa => k_asm); (case zqa2 => first | assumption | exact List.Mem.head _ | (refine List.Mem.tail _ ?_; first | assumption | exact List.Mem.head _)); (case zqb => assumption); (case zqc => first | omega | ((have hl := parted_len ((by assumption : lawPartedF _ = partedF _) ▸ (by assumption : lawPartedF _ = some _)) (by assumption)); omega)); k_whole))) | ((fail_if_success (fail_if_success (with_reducible show wpAny _ _ (call (Value.ref _) (_ :: _)) _ _ _))); (k_here; k_dflt (refine' law_value_c _ _ _ _ _ ?zqcx ?zqco _ _ _ _ _ _ _ _ _ _ _ _ _ _ _ _ _ _ _ _ _ _ _ ?zqk1 ?zqk2 ?zqk3 ?zqk4 ?zqk5 ?zqkK ?zqkd ?zqku ?_; (case zqk1 => k_asm); (case zqk2 => k_asm); (case zqk3 => k_asm); (case zqk4 => k_asm); (case zqk5 => k_asm); (case zqkK => first | exact rfl | assumption); (case zqcx => first | assumption | omega); (case zqco => assumption); (case zqkd => ktr_room); (case zqku => ktr_units); refine ⟨fun hvf hkt => ?zqvf1, fun hkt => ?zqvf2, fun k9 hvf hkt => ?zqvf3⟩; (case' zqvf1 => first | exact absurd hkt (by decide) | (refine Ret.use ?_; intro t9 h9 tk9 F9 N9; (try dsimp only); (try k_fold))); (case' zqvf2 => first | exact absurd hkt (by decide) | (refine Ret.use ?_; intro t9 h9 tk9 F9 N9; (try dsimp only); (try k_fold))); (case' zqvf3 => first | exact absurd hkt (by decide) | (refine Ret.use ?_; intro t9 h9 tk9 F9 N9; (try dsimp only); (try k_fold)))))) | ((fail_if_success (fail_if_success (with_reducible show wpAny _ _ (call (Value.ref _) (_ :: _)) _ _ _))); (k_here; k_dflt (refine' law_parted_c _ _ _ ?zqcx _ _ _ _ _ _ _ _ _ _ _ _ _ _ _ _ _ _ _ _ _ _ _ ?zqk1 ?zqk2 ?zqk3 ?zqk4 ?zqk5 ?zqkK ?zqkd ?zqku ?_; (case zqk1 => k_asm); (case zqk2 => k_asm); (case zqk3 => k_asm); (case zqk4 => k_asm); (case zqk5 => k_asm); (case zqkK => first | exact rfl | assumption); (case zqcx => first | assumption | omega); (case zqkd => ktr_room); (case zqku => ktr_units); refine ⟨fun hpf => ?zqpf1, fun fs9 hpf => ?zqpf2⟩; (case' zqpf1 => (intro h9 tk9 F9 N9; (try dsimp only); (try k_fold))); (case' zqpf2 => (intro vs9 n9 l9' h9 tk9 sa9 F9 N9 l9; (try k_lt l9); (try dsimp only); (try k_fold)))))) | (k_unfold; (try dsimp only)) | (k_end; wrow_close) | walk1 | (dsimp only; first | walk1 | (fail_if_success (fail_if_success (with_reducible show wpAny _ _ (call (Value.builtin "len") (_ :: _)) _ _ _))) | (fail_if_success (fail_if_success (with_reducible show wpAny _ _ (call (Value.ref _) (_ :: _)) _ _ _))) | (fail_if_success (fail_if_success (with_reducible show wpAny _ _ (compareOp CmpOp.NotEq (Value.ref _) (Value.ref _)) _ _ _)))) | (leave1; walk_say "STEP leave1"; try dsimp only) | fail "no step"))
          refine ⟨_, _, _, rfl, by k_asm, by k_asm, fun p hp => .inl ⟨p, hp, rfl⟩, rfl, ?_⟩
          rw [ht1, List.filter_append]
          exact carried_snoc hys2 .none
        | int n t =>
          dsimp only
          (try k_fold)
          (repeat' (first | ((fail_if_success (fail_if_success (with_reducible show wpAny _ _ (compareOp CmpOp.NotEq (Value.ref _) (Value.ref _)) _ _ _))); (k_here; (with_reducible show wpAny _ _ (compareOp CmpOp.NotEq (Value.ref _) (Value.ref _)) _ _ _); k_dflt (refine' ne_dataH (reads_newData (ds := List.filter isND _) ?zqa ?zqb) (reads_newData (ds := []) ?zqc .nil) ?zqd ?zqe ?zqf ?_; (case zqa => exact News.isList (by k_asm) (by k_mem)); (case zqb => with_reducible assumption); (case zqc => exact News.isList (by k_asm) (by k_mem)); (case zqd => exact shaped_nones _); (case zqe => rfl); (case zqf => exact (Mine.rm2 hu rfl : un + 3 + 64 < cLine)); rw [eqv_nil]))) | ((fail_if_success (fail_if_success (with_reducible show wpAny _ _ (call (Value.builtin "len") (_ :: _)) _ _ _))); (k_here; (with_reducible show wpAny _ _ (call (Value.builtin "len") [Value.ref _]) _ _ _); k_dflt (refine' len_strsA (News.isList ?zqa ?zqa2) ?zqb ?zqc ?_; (case zqa => k_asm); (case zqa2 => first | assumption | exact List.Mem.head _ | (refine List.Mem.tail _ ?_; first | assumption | exact List.Mem.head _)); (case zqb => assumption); (case zqc => first | omega | ((have hl := parted_len ((by assumption : lawPartedF _ = partedF _) ▸ (by assumption : lawPartedF _ = some _)) (by assumption)); omega)); k_whole))) | ((fail_if_success (fail_if_success (with_reducible show wpAny _ _ (call (Value.ref _) (_ :: _)) _ _ _))); (k_here; k_dflt (refine' law_value_c _ _ _ _ _ ?zqcx ?zqco _ _ _ _ _ _ _ _ _ _ _ _ _ _ _ _ _ _ _ _ _ _ _ ?zqk1 ?zqk2 ?zqk3 ?zqk4 ?zqk5 ?zqkK ?zqkd ?zqku ?_; (case zqk1 => k_asm); (case zqk2 => k_asm); (case zqk3 => k_asm); (case zqk4 => k_asm); (case zqk5 => k_asm); (case zqkK => first | exact rfl | assumption); (case zqcx => first | assumption | omega); (case zqco => assumption); (case zqkd => ktr_room); (case zqku => ktr_units); refine ⟨fun hvf hkt => ?zqvf1, fun hkt => ?zqvf2, fun k9 hvf hkt => ?zqvf3⟩; (case' zqvf1 => first | exact absurd hkt (by decide) | (refine Ret.use ?_; intro t9 h9 tk9 F9 N9; (try dsimp only); (try k_fold))); (case' zqvf2 => first | exact absurd hkt (by decide) | (refine Ret.use ?_; intro t9 h9 tk9 F9 N9; (try dsimp only); (try k_fold))); (case' zqvf3 => first | exact absurd hkt (by decide) | (refine Ret.use ?_; intro t9 h9 tk9 F9 N9; (try dsimp only); (try k_fold)))))) | ((fail_if_success (fail_if_success (with_reducible show wpAny _ _ (call (Value.ref _) (_ :: _)) _ _ _))); (k_here; k_dflt (refine' law_parted_c _ _ _ ?zqcx _ _ _ _ _ _ _ _ _ _ _ _ _ _ _ _ _ _ _ _ _ _ _ ?zqk1 ?zqk2 ?zqk3 ?zqk4 ?zqk5 ?zqkK ?zqkd ?zqku ?_; (case zqk1 => k_asm); (case zqk2 => k_asm); (case zqk3 => k_asm); (case zqk4 => k_asm); (case zqk5 => k_asm); (case zqkK => first | exact rfl | assumption); (case zqcx => first | assumption | omega); (case zqkd => ktr_room); (case zqku => ktr_units); refine ⟨fun hpf => ?zqpf1, fun fs9 hpf => ?zqpf2⟩; (case' zqpf1 => (intro h9 tk9 F9 N9; (try dsimp only); (try k_fold))); (case' zqpf2 => (intro vs9 n9 l9' h9 tk9 sa9 F9 N9 l9; (try k_lt l9); (try dsimp only); (try k_fold)))))) | (k_unfold; (try dsimp only)) | (k_end; wrow_close) | walk1 | (dsimp only; first | walk1 | (fail_if_success (fail_if_success (with_reducible show wpAny _ _ (call (Value.builtin "len") (_ :: _)) _ _ _))) | (fail_if_success (fail_if_success (with_reducible show wpAny _ _ (call (Value.ref _) (_ :: _)) _ _ _))) | (fail_if_success (fail_if_success (with_reducible show wpAny _ _ (compareOp CmpOp.NotEq (Value.ref _) (Value.ref _)) _ _ _)))) | (leave1; walk_say "STEP leave1"; try dsimp only) | fail "no step"))
          refine ⟨_, _, _, rfl, by k_asm, by k_asm, fun p hp => .inl ⟨p, hp, rfl⟩, rfl, ?_⟩
          rw [ht1, List.filter_append, show List.filter isND [PyData.int n] = [] from rfl, List.append_nil]
          exact hys2
        | str y t =>
          dsimp only
          (try k_fold)
          (repeat' (first | ((fail_if_success (fail_if_success (with_reducible show wpAny _ _ (compareOp CmpOp.NotEq (Value.ref _) (Value.ref _)) _ _ _))); (k_here; (with_reducible show wpAny _ _ (compareOp CmpOp.NotEq (Value.ref _) (Value.ref _)) _ _ _); k_dflt (refine' ne_dataH (reads_newData (ds := List.filter isND _) ?zqa ?zqb) (reads_newData (ds := []) ?zqc .nil) ?zqd ?zqe ?zqf ?_; (case zqa => exact News.isList (by k_asm) (by k_mem)); (case zqb => with_reducible assumption); (case zqc => exact News.isList (by k_asm) (by k_mem)); (case zqd => exact shaped_nones _); (case zqe => rfl); (case zqf => exact (Mine.rm2 hu rfl : un + 3 + 64 < cLine)); rw [eqv_nil]))) | ((fail_if_success (fail_if_success (with_reducible show wpAny _ _ (call (Value.builtin "len") (_ :: _)) _ _ _))); (k_here; (with_reducible show wpAny _ _ (call (Value.builtin "len") [Value.ref _]) _ _ _); k_dflt (refine' len_strsA (News.isList ?zqa ?zqa2) ?zqb ?zqc ?_; (case zqa => k_asm); (case zqa2 => first | assumption | exact List.Mem.head _ | (refine List.Mem.tail _ ?_; first | assumption | exact List.Mem.head _)); (case zqb => assumption); (case zqc => first | omega | ((have hl := parted_len ((by assumption : lawPartedF _ = partedF _) ▸ (by assumption : lawPartedF _ = some _)) (by assumption)); omega)); k_whole))) | ((fail_if_success (fail_if_success (with_reducible show wpAny _ _ (call (Value.ref _) (_ :: _)) _ _ _))); (k_here; k_dflt (refine' law_value_c _ _ _ _ _ ?zqcx ?zqco _ _ _ _ _ _ _ _ _ _ _ _ _ _ _ _ _ _ _ _ _ _ _ ?zqk1 ?zqk2 ?zqk3 ?zqk4 ?zqk5 ?zqkK ?zqkd ?zqku ?_; (case zqk1 => k_asm); (case zqk2 => k_asm); (case zqk3 => k_asm); (case zqk4 => k_asm); (case zqk5 => k_asm); (case zqkK => first | exact rfl | assumption); (case zqcx => first | assumption | omega); (case zqco => assumption); (case zqkd => ktr_room); (case zqku => ktr_units); refine ⟨fun hvf hkt => ?zqvf1, fun hkt => ?zqvf2, fun k9 hvf hkt => ?zqvf3⟩; (case' zqvf1 => first | exact absurd hkt (by decide) | (refine Ret.use ?_; intro t9 h9 tk9 F9 N9; (try dsimp only); (try k_fold))); (case' zqvf2 => first | exact absurd hkt (by decide) | (refine Ret.use ?_; intro t9 h9 tk9 F9 N9; (try dsimp only); (try k_fold))); (case' zqvf3 => first | exact absurd hkt (by decide) | (refine Ret.use ?_; intro t9 h9 tk9 F9 N9; (try dsimp only); (try k_fold)))))) | ((fail_if_success (fail_if_success (with_reducible show wpAny _ _ (call (Value.ref _) (_ :: _)) _ _ _))); (k_here; k_dflt (refine' law_parted_c _ _ _ ?zqcx _ _ _ _ _ _ _ _ _ _ _ _ _ _ _ _ _ _ _ _ _ _ _ ?zqk1 ?zqk2 ?zqk3 ?zqk4 ?zqk5 ?zqkK ?zqkd ?zqku ?_; (case zqk1 => k_asm); (case zqk2 => k_asm); (case zqk3 => k_asm); (case zqk4 => k_asm); (case zqk5 => k_asm); (case zqkK => first | exact rfl | assumption); (case zqcx => first | assumption | omega); (case zqkd => ktr_room); (case zqku => ktr_units); refine ⟨fun hpf => ?zqpf1, fun fs9 hpf => ?zqpf2⟩; (case' zqpf1 => (intro h9 tk9 F9 N9; (try dsimp only); (try k_fold))); (case' zqpf2 => (intro vs9 n9 l9' h9 tk9 sa9 F9 N9 l9; (try k_lt l9); (try dsimp only); (try k_fold)))))) | (k_unfold; (try dsimp only)) | (k_end; wrow_close) | walk1 | (dsimp only; first | walk1 | (fail_if_success (fail_if_success (with_reducible show wpAny _ _ (call (Value.builtin "len") (_ :: _)) _ _ _))) | (fail_if_success (fail_if_success (with_reducible show wpAny _ _ (call (Value.ref _) (_ :: _)) _ _ _))) | (fail_if_success (fail_if_success (with_reducible show wpAny _ _ (compareOp CmpOp.NotEq (Value.ref _) (Value.ref _)) _ _ _)))) | (leave1; walk_say "STEP leave1"; try dsimp only) | fail "no step"))
          refine ⟨_, _, _, rfl, by k_asm, by k_asm, fun p hp => .inl ⟨p, hp, rfl⟩, rfl, ?_⟩
          rw [ht1, List.filter_append, show List.filter isND [PyData.str y] = [] from rfl, List.append_nil]
          exact hys2
        | bool y =>
          dsimp only
          (try k_fold)
          (repeat' (first | ((fail_if_success (fail_if_success (with_reducible show wpAny _ _ (compareOp CmpOp.NotEq (Value.ref _) (Value.ref _)) _ _ _))); (k_here; (with_reducible show wpAny _ _ (compareOp CmpOp.NotEq (Value.ref _) (Value.ref _)) _ _ _); k_dflt (refine' ne_dataH (reads_newData (ds := List.filter isND _) ?zqa ?zqb) (reads_newData (ds := []) ?zqc .nil) ?zqd ?zqe ?zqf ?_; (case zqa => exact News.isList (by k_asm) (by k_mem)); (case zqb => with_reducible assumption); (case zqc => exact News.isList (by k_asm) (by k_mem)); (case zqd => exact shaped_nones _); (case zqe => rfl); (case zqf => exact (Mine.rm2 hu rfl : un + 3 + 64 < cLine)); rw [eqv_nil]))) | ((fail_if_success (fail_if_success (with_reducible show wpAny _ _ (call (Value.builtin "len") (_ :: _)) _ _ _))); (k_here; (with_reducible show wpAny _ _ (call (Value.builtin "len") [Value.ref _]) _ _ _); k_dflt (refine' len_strsA (News.isList ?zqa ?zqa2) ?zqb ?zqc ?_; (case zqa => k_asm); (case zqa2 => first | assumption | exact List.Mem.head _ | (refine List.Mem.tail _ ?_; first | assumption | exact List.Mem.head _)); (case zqb => assumption); (case zqc => first | omega | ((have hl := parted_len ((by assumption : lawPartedF _ = partedF _) ▸ (by assumption : lawPartedF _ = some _)) (by assumption)); omega)); k_whole))) | ((fail_if_success (fail_if_success (with_reducible show wpAny _ _ (call (Value.ref _) (_ :: _)) _ _ _))); (k_here; k_dflt (refine' law_value_c _ _ _ _ _ ?zqcx ?zqco _ _ _ _ _ _ _ _ _ _ _ _ _ _ _ _ _ _ _ _ _ _ _ ?zqk1 ?zqk2 ?zqk3 ?zqk4 ?zqk5 ?zqkK ?zqkd ?zqku ?_; (case zqk1 => k_asm); (case zqk2 => k_asm); (case zqk3 => k_asm); (case zqk4 => k_asm); (case zqk5 => k_asm); (case zqkK => first | exact rfl | assumption); (case zqcx => first | assumption | omega); (case zqco => assumption); (case zqkd => ktr_room); (case zqku => ktr_units); refine ⟨fun hvf hkt => ?zqvf1, fun hkt => ?zqvf2, fun k9 hvf hkt => ?zqvf3⟩; (case' zqvf1 => first | exact absurd hkt (by decide) | (refine Ret.use ?_; intro t9 h9 tk9 F9 N9; (try dsimp only); (try k_fold))); (case' zqvf2 => first | exact absurd hkt (by decide) | (refine Ret.use ?_; intro t9 h9 tk9 F9 N9; (try dsimp only); (try k_fold))); (case' zqvf3 => first | exact absurd hkt (by decide) | (refine Ret.use ?_; intro t9 h9 tk9 F9 N9; (try dsimp only); (try k_fold)))))) | ((fail_if_success (fail_if_success (with_reducible show wpAny _ _ (call (Value.ref _) (_ :: _)) _ _ _))); (k_here; k_dflt (refine' law_parted_c _ _ _ ?zqcx _ _ _ _ _ _ _ _ _ _ _ _ _ _ _ _ _ _ _ _ _ _ _ ?zqk1 ?zqk2 ?zqk3 ?zqk4 ?zqk5 ?zqkK ?zqkd ?zqku ?_; (case zqk1 => k_asm); (case zqk2 => k_asm); (case zqk3 => k_asm); (case zqk4 => k_asm); (case zqk5 => k_asm); (case zqkK => first | exact rfl | assumption); (case zqcx => first | assumption | omega); (case zqkd => ktr_room); (case zqku => ktr_units); refine ⟨fun hpf => ?zqpf1, fun fs9 hpf => ?zqpf2⟩; (case' zqpf1 => (intro h9 tk9 F9 N9; (try dsimp only); (try k_fold))); (case' zqpf2 => (intro vs9 n9 l9' h9 tk9 sa9 F9 N9 l9; (try k_lt l9); (try dsimp only); (try k_fold)))))) | (k_unfold; (try dsimp only)) | (k_end; wrow_close) | walk1 | (dsimp only; first | walk1 | (fail_if_success (fail_if_success (with_reducible show wpAny _ _ (call (Value.builtin "len") (_ :: _)) _ _ _))) | (fail_if_success (fail_if_success (with_reducible show wpAny _ _ (call (Value.ref _) (_ :: _)) _ _ _))) | (fail_if_success (fail_if_success (with_reducible show wpAny _ _ (compareOp CmpOp.NotEq (Value.ref _) (Value.ref _)) _ _ _)))) | (leave1; walk_say "STEP leave1"; try dsimp only) | fail "no step"))
          refine ⟨_, _, _, rfl, by k_asm, by k_asm, fun p hp => .inl ⟨p, hp, rfl⟩, rfl, ?_⟩
          rw [ht1, List.filter_append, show List.filter isND [PyData.bool y] = [] from rfl, List.append_nil]
          exact hys2
      case fin2 =>
        rintro s' ⟨hp', rfl⟩
        intro D2 ys2 nx hD3 hD4 hJ
        obtain ⟨rfl, hys2⟩ := hJ
        intro h2 tk2 F2 N2
        clear F1 N1
        have hsize : ys.toArray.size = (List.zipWith valP ks fs).length := by simp [hyl]
        rw [hsize, List.take_length] at hys2
        dsimp only
        (repeat' (first | ((fail_if_success (fail_if_success (with_reducible show wpAny _ _ (compareOp CmpOp.NotEq (Value.ref _) (Value.ref _)) _ _ _))); (k_here; (with_reducible show wpAny _ _ (compareOp CmpOp.NotEq (Value.ref _) (Value.ref _)) _ _ _); k_dflt (refine' ne_dataH (reads_newData (ds := List.filter isND _) ?zqa ?zqb) (reads_newData (ds := []) ?zqc .nil) ?zqd ?zqe ?zqf ?_; (case zqa => exact News.isList (by k_asm) (by k_mem)); (case zqb => with_reducible assumption); (case zqc => exact News.isList (by k_asm) (by k_mem)); (case zqd => exact shaped_nones _); (case zqe => rfl); (case zqf => exact (Mine.rm2 hu rfl : un + 3 + 64 < cLine)); rw [eqv_nil]))) | ((fail_if_success (fail_if_success (with_reducible show wpAny _ _ (call (Value.builtin "len") (_ :: _)) _ _ _))); (k_here; (with_reducible show wpAny _ _ (call (Value.builtin "len") [Value.ref _]) _ _ _); k_dflt (refine' len_strsA (News.isList ?zqa ?zqa2) ?zqb ?zqc ?_; (case zqa => k_asm); (case zqa2 => first | assumption | exact List.Mem.head _ | (refine List.Mem.tail _ ?_; first | assumption | exact List.Mem.head _)); (case zqb => assumption); (case zqc => first | omega | ((have hl := parted_len ((by assumption : lawPartedF _ = partedF _) ▸ (by assumption : lawPartedF _ = some _)) (by assumption)); omega)); k_whole))) | ((fail_if_success (fail_if_success (with_reducible show wpAny _ _ (call (Value.ref _) (_ :: _)) _ _ _))); (k_here; k_dflt (refine' law_value_c _ _ _ _ _ ?zqcx ?zqco _ _ _ _ _ _ _ _ _ _ _ _ _ _ _ _ _ _ _ _ _ _ _ ?zqk1 ?zqk2 ?zqk3 ?zqk4 ?zqk5 ?zqkK ?zqkd ?zqku ?_; (case zqk1 => k_asm); (case zqk2 => k_asm); (case zqk3 => k_asm); (case zqk4 => k_asm); (case zqk5 => k_asm); (case zqkK => first | exact rfl | assumption); (case zqcx => first | assumption | omega); (case zqco => assumption); (case zqkd => ktr_room); (case zqku => ktr_units); refine ⟨fun hvf hkt => ?zqvf1, fun hkt => ?zqvf2, fun k9 hvf hkt => ?zqvf3⟩; (case' zqvf1 => first | exact absurd hkt (by decide) | (refine Ret.use ?_; intro t9 h9 tk9 F9 N9; (try dsimp only); (try k_fold))); (case' zqvf2 => first | exact absurd hkt (by decide) | (refine Ret.use ?_; intro t9 h9 tk9 F9 N9; (try dsimp only); (try k_fold))); (case' zqvf3 => first | exact absurd hkt (by decide) | (refine Ret.use ?_; intro t9 h9 tk9 F9 N9; (try dsimp only); (try k_fold)))))) | ((fail_if_success (fail_if_success (with_reducible show wpAny _ _ (call (Value.ref _) (_ :: _)) _ _ _))); (k_here; k_dflt (refine' law_parted_c _ _ _ ?zqcx _ _ _ _ _ _ _ _ _ _ _ _ _ _ _ _ _ _ _ _ _ _ _ ?zqk1 ?zqk2 ?zqk3 ?zqk4 ?zqk5 ?zqkK ?zqkd ?zqku ?_; (case zqk1 => k_asm); (case zqk2 => k_asm); (case zqk3 => k_asm); (case zqk4 => k_asm); (case zqk5 => k_asm); (case zqkK => first | exact rfl | assumption); (case zqcx => first | assumption | omega); (case zqkd => ktr_room); (case zqku => ktr_units); refine ⟨fun hpf => ?zqpf1, fun fs9 hpf => ?zqpf2⟩; (case' zqpf1 => (intro h9 tk9 F9 N9; (try dsimp only); (try k_fold))); (case' zqpf2 => (intro vs9 n9 l9' h9 tk9 sa9 F9 N9 l9; (try k_lt l9); (try dsimp only); (try k_fold)))))) | (k_unfold; (try dsimp only)) | (k_end; wrow_close) | walk1 | (dsimp only; first | walk1 | (fail_if_success (fail_if_success (with_reducible show wpAny _ _ (call (Value.builtin "len") (_ :: _)) _ _ _))) | (fail_if_success (fail_if_success (with_reducible show wpAny _ _ (call (Value.ref _) (_ :: _)) _ _ _))) | (fail_if_success (fail_if_success (with_reducible show wpAny _ _ (compareOp CmpOp.NotEq (Value.ref _) (Value.ref _)) _ _ _)))) | (leave1; walk_say "STEP leave1"; try dsimp only) | fail "no step"))
        · rename (List.isEmpty _ = true) => hb
          have hTd : fitF ks x = some (List.zipWith valP ks fs) := by rw [hT, fitL_zip ks fs hlen2, if_pos hb]
          rename (News h₀ _ _ _) => hN
          exact hret.2 _ hTd ys _ D _ _ hys (by k_asm) (ndrop (a := [_]) (b := [_]) (ndrop (a := []) (b := [_, _]) hN)) (fun p hp => hD2 p (List.Mem.tail _ hp))
        · rename (List.isEmpty _ = false) => hb
          have hTd : fitF ks x = none := by rw [hT, fitL_zip ks fs hlen2, if_neg (by rw [hb]; exact Bool.false_ne_true)]
          rename (News h₀ _ _ _) => hN
          exact hret.1 hTd 0 _ _ _ rfl (by k_asm) (ndrop (a := []) (b := [_, _, _, _]) hN)
  · rename (lawPartedF x = _) => hp
    have hT : fitF ks x = none := by unfold fitF; rw [← hpt, hp]
    exact hret.1 hT 0 _ _ _ rfl (by k_asm) (by k_asm)
end Mine
end
section
namespace Mine
theorem startT2 : True := by
  w_top off
  trivial
end Mine
open PySem PySem.W PyProof.Rows PySem.Builtin.Str PySem.StrLaws
namespace Mine
/-! the law's parting, on lists of codes -/
theorem S_app (a b : List Nat) : S a ++ S b = S (a ++ b) := by
  refine PySem.Str.ext' (Array.toList_inj.mp ?_)
  rw [PySem.Str.cps_append, Array.toList_append]
theorem app_one (y : Str) (n : Nat) : y ++ ⟨#[n]⟩ = y ++ S [n] := rfl
theorem app_S_cons (y : Str) (n : Nat) (r : List Nat) : (y ++ ⟨#[n]⟩) ++ S r = y ++ S (n :: r) := by
  rw [app_one, PySem.Str.append_assoc, S_app [n] r]; rfl
theorem app_S_nil (y : Str) : y ++ S [] = y := PySem.Str.append_empty y
noncomputable abbrev e0 : Str := Str.ofString ""
theorem e0_app (r : List Nat) : e0 ++ S r = S r := PySem.Str.empty_append (S r)
noncomputable abbrev rsp (y : Str) : Str := Txt.rstripChars y (Str.ofString " ")

theorem lp_inside (len : Nat) : ∀ (u : List Nat) (i : Nat) (fs : List Str) (now : Str), i + u.length = len →
    lpRun len i (u ++ [44]) (fs, now, .inside) = match u.dropWhile (fun c => c != 34) with
      | [] => some (fs ++ [now ++ S u], e0, .before)
      | _ :: v => lpRun len (len - v.length) (v ++ [44]) (fs, now ++ S (u.takeWhile (fun c => c != 34)), .after)
  | [], i, fs, now, h => by
    have hi : ¬ i < len := by simp at h; (first | lia | omega)
    show (lpStep len i 44 (fs, now, .inside)).bind (lpRun len (i + 1) []) = _
    simp only [lpStep, if_neg hi, List.dropWhile_nil, app_S_nil]
    rfl
  | n :: u, i, fs, now, h => by
    have hi : i < len := by simp at h; (first | lia | omega)
    have ih := lp_inside len u (i + 1) fs (now ++ ⟨#[n]⟩) (by simp at h; (first | lia | omega))
    show (lpStep len i n (fs, now, .inside)).bind (lpRun len (i + 1) (u ++ [44])) = _
    simp only [lpStep, if_pos hi]
    by_cases hn : n = 34
    · subst hn
      rw [if_pos rfl]
      have h1 : List.dropWhile (fun c => c != 34) (34 :: u) = 34 :: u := by simp
      have h2 : List.takeWhile (fun c => c != 34) (34 :: u) = [] := by simp
      rw [h1, h2, app_S_nil]
      have hl : len - u.length = i + 1 := by simp at h; (first | lia | omega)
      simp only [Option.bind_some]
      rw [hl]
    · rw [if_neg hn, Option.bind_some, ih]
      have h1 : List.dropWhile (fun c => c != 34) (n :: u) = List.dropWhile (fun c => c != 34) u := by simp [hn]
      have h2 : List.takeWhile (fun c => c != 34) (n :: u) = n :: List.takeWhile (fun c => c != 34) u := by simp [hn]
      rw [h1, h2, app_S_cons, app_S_cons]
theorem lp_after (len : Nat) : ∀ (u : List Nat) (i : Nat) (fs : List Str) (now : Str), i + u.length = len →
    lpRun len i (u ++ [44]) (fs, now, .after) = match u.dropWhile (fun c => c == 32) with
      | [] => some (fs ++ [now], e0, .before)
      | c :: t => if c = 44 then lpRun len (len - t.length) (t ++ [44]) (fs ++ [now], e0, .before) else none
  | [], i, fs, now, h => by
    show (lpStep len i 44 (fs, now, .after)).bind (lpRun len (i + 1) []) = _
    simp only [lpStep, List.dropWhile_nil]
    rfl
  | n :: u, i, fs, now, h => by
    have ih := lp_after len u (i + 1) fs now (by simp at h; (first | lia | omega))
    have hl : len - u.length = i + 1 := by simp at h; (first | lia | omega)
    show (lpStep len i n (fs, now, .after)).bind (lpRun len (i + 1) (u ++ [44])) = _
    simp only [lpStep]
    by_cases hn : n = 44
    · subst hn
      have h1 : List.dropWhile (fun c => c == 32) (44 :: u) = 44 :: u := by simp
      rw [h1]
      simp only [if_true, Option.bind_some]
      rw [hl]
    · rw [if_neg hn]
      by_cases h2 : n = 32
      · subst h2
        have h1 : List.dropWhile (fun c => c == 32) (32 :: u) = List.dropWhile (fun c => c == 32) u := by simp
        rw [if_pos rfl, h1, Option.bind_some, ih]
      · have h1 : List.dropWhile (fun c => c == 32) (n :: u) = n :: u := by simp [h2]
        rw [if_neg h2, h1]
        simp only [if_neg hn, Option.bind_none]
theorem lp_bare (len : Nat) : ∀ (u : List Nat) (i : Nat) (fs : List Str) (now : Str), i + u.length = len →
    lpRun len i (u ++ [44]) (fs, now, .bare) = match u.dropWhile (fun c => c != 44) with
      | [] => some (fs ++ [rsp (now ++ S u)], e0, .before)
      | _ :: t => lpRun len (len - t.length) (t ++ [44]) (fs ++ [rsp (now ++ S (u.takeWhile (fun c => c != 44)))], e0, .before)
  | [], i, fs, now, h => by
    show (lpStep len i 44 (fs, now, .bare)).bind (lpRun len (i + 1) []) = _
    simp only [lpStep, List.dropWhile_nil, app_S_nil]
    rfl
  | n :: u, i, fs, now, h => by
    have ih := lp_bare len u (i + 1) fs (now ++ ⟨#[n]⟩) (by simp at h; (first | lia | omega))
    have hl : len - u.length = i + 1 := by simp at h; (first | lia | omega)
    show (lpStep len i n (fs, now, .bare)).bind (lpRun len (i + 1) (u ++ [44])) = _
    simp only [lpStep]
    by_cases hn : n = 44
    · subst hn
      have h1 : List.dropWhile (fun c => c != 44) (44 :: u) = 44 :: u := by simp
      have h2 : List.takeWhile (fun c => c != 44) (44 :: u) = [] := by simp
      rw [h1, h2, app_S_nil]
      simp only [if_true, Option.bind_some]
      rw [hl]
    · rw [if_neg hn, Option.bind_some, ih]
      have h1 : List.dropWhile (fun c => c != 44) (n :: u) = List.dropWhile (fun c => c != 44) u := by simp [hn]
      have h2 : List.takeWhile (fun c => c != 44) (n :: u) = n :: List.takeWhile (fun c => c != 44) u := by simp [hn]
      rw [h1, h2, app_S_cons, app_S_cons]
/-- the law's next field: the field or none; what is left behind its comma or none -/
noncomputable def lawField (l : List Nat) : Option Str × Option (List Nat) := match l.dropWhile (fun c => c == 32) with
  | [] => (some e0, none)
  | n :: u => if n = 34 then (match u.dropWhile (fun c => c != 34) with
      | [] => (some (S u), none)
      | _ :: v => match v.dropWhile (fun c => c == 32) with
        | [] => (some (S (u.takeWhile (fun c => c != 34))), none)
        | c :: t => if c = 44 then (some (S (u.takeWhile (fun c => c != 34))), some t) else (none, none))
    else match (n :: u).dropWhile (fun c => c != 44) with
      | [] => (some (rsp (S (n :: u))), none)
      | _ :: t => (some (rsp (S ((n :: u).takeWhile (fun c => c != 44)))), some t)
theorem rsp_nil : rsp (S []) = e0 := by decide +kernel
theorem dw_len {p : Nat → Bool} {l r : List Nat} {a : Nat} (h : l.dropWhile p = a :: r) : r.length < l.length := by
  have := congrArg List.length h
  have h2 := (List.dropWhile_sublist p (l := l)).length_le
  simp at this
  (first | lia | omega)
theorem lp_before (len : Nat) : ∀ (l : List Nat) (i : Nat) (fs : List Str), i + l.length = len →
    lpRun len i (l ++ [44]) (fs, e0, .before) = match lawField l with
      | (none, _) => none
      | (some f, none) => some (fs ++ [f], e0, .before)
      | (some f, some t) => lpRun len (len - t.length) (t ++ [44]) (fs ++ [f], e0, .before)
  | [], i, fs, h => by
    show (lpStep len i 44 (fs, e0, .before)).bind (lpRun len (i + 1) []) = _
    simp only [lpStep, lawField, List.dropWhile_nil]
    rfl
  | n :: u, i, fs, h => by
    have ih := lp_before len u (i + 1) fs (by simp at h; (first | lia | omega))
    have hl : len - u.length = i + 1 := by simp at h; (first | lia | omega)
    have hl2 : (i + 1) + u.length = len := by simp at h; (first | lia | omega)
    show (lpStep len i n (fs, e0, .before)).bind (lpRun len (i + 1) (u ++ [44])) = _
    simp only [lpStep]
    by_cases h44 : n = 44
    · subst h44
      have h1 : List.dropWhile (fun c => c == 32) (44 :: u) = 44 :: u := by simp
      have h2 : List.dropWhile (fun c => c != 44) (44 :: u) = 44 :: u := by simp
      have h3 : List.takeWhile (fun c => c != 44) (44 :: u) = [] := by simp
      have h5 : lawField (44 :: u) = (some e0, some u) := by
        unfold lawField
        rw [h1]
        show (match List.dropWhile (fun c => c != 44) (44 :: u) with | [] => (some (rsp (S (44 :: u))), none) | _ :: t => (some (rsp (S (List.takeWhile (fun c => c != 44) (44 :: u)))), some t)) = _
        rw [h2, h3, rsp_nil]
      rw [h5, if_pos rfl, Option.bind_some]
      dsimp only
      rw [hl]
    · rw [if_neg h44]
      by_cases h34 : n = 34
      · subst h34
        have h1 : List.dropWhile (fun c => c == 32) (34 :: u) = 34 :: u := by simp
        rw [if_pos rfl, Option.bind_some, lp_inside len u (i + 1) fs e0 hl2]
        simp only [lawField, h1, if_true, e0_app]
        rcases hv : List.dropWhile (fun c => c != 34) u with _ | ⟨q, v⟩
        · rfl
        · dsimp only
          have := dw_len hv
          rw [lp_after len v (len - v.length) fs _ (by (first | lia | omega))]
          rcases List.dropWhile (fun c => c == 32) v with _ | ⟨c, t⟩
          · rfl
          · dsimp only
            split <;> rfl
      · rw [if_neg h34]
        by_cases h32 : n = 32
        · subst h32
          have h1 : List.dropWhile (fun c => c == 32) (32 :: u) = List.dropWhile (fun c => c == 32) u := by simp
          rw [if_pos rfl, Option.bind_some, ih]
          simp only [lawField, h1]
        · have h1 : List.dropWhile (fun c => c == 32) (n :: u) = n :: u := by simp [h32]
          have h2 : List.dropWhile (fun c => c != 44) (n :: u) = List.dropWhile (fun c => c != 44) u := by simp [h44]
          have h3 : List.takeWhile (fun c => c != 44) (n :: u) = n :: List.takeWhile (fun c => c != 44) u := by simp [h44]
          rw [if_neg h32, Option.bind_some, lp_bare len u (i + 1) fs _ hl2]
          simp only [lawField, h1, if_neg h34, h2, h3]
          have h4 : ∀ r, (e0 ++ ⟨#[n]⟩) ++ S r = S (n :: r) := fun r => by rw [app_S_cons, e0_app]
          rcases List.dropWhile (fun c => c != 44) u with _ | ⟨q, v⟩
          · dsimp only; rw [h4]
          · dsimp only; rw [h4]
end Mine
end
section
namespace Mine
theorem startT3 : True := by
  w_top off
  trivial
end Mine
open PySem PySem.W PyProof.Rows PySem.Builtin.Str PySem.StrLaws
namespace Mine
theorem dw_nil {p : Nat → Bool} : ∀ {l : List Nat}, (∀ d ∈ l, p d = true) → l.dropWhile p = []
  | [], _ => rfl
  | a :: l, h => by
    rw [List.dropWhile_cons_of_pos (h a (.head _))]
    exact dw_nil fun d hd => h d (.tail _ hd)
theorem drop_tw {p : Nat → Bool} : ∀ l : List Nat, l.drop (l.takeWhile p).length = l.dropWhile p
  | [] => rfl
  | a :: l => by
    by_cases h : p a = true
    · rw [List.takeWhile_cons_of_pos h, List.dropWhile_cons_of_pos h, List.length_cons, List.drop_succ_cons, drop_tw l]
    · rw [List.takeWhile_cons_of_neg h, List.dropWhile_cons_of_neg h]; rfl
theorem take_tw {p : Nat → Bool} : ∀ l : List Nat, l.take (l.takeWhile p).length = l.takeWhile p
  | [] => rfl
  | a :: l => by
    by_cases h : p a = true
    · rw [List.takeWhile_cons_of_pos h, List.length_cons, List.take_succ_cons, take_tw l]
    · rw [List.takeWhile_cons_of_neg h]; rfl
theorem tw_congr {p q : Nat → Bool} : ∀ {l : List Nat}, (∀ c ∈ l, p c = q c) → l.takeWhile p = l.takeWhile q ∧ l.dropWhile p = l.dropWhile q
  | [], _ => ⟨rfl, rfl⟩
  | a :: l, h => by
    have ih := tw_congr (l := l) fun c hc => h c (.tail _ hc)
    have ha := h a (.head _)
    by_cases hp : p a = true
    · have hq : q a = true := ha ▸ hp
      rw [List.takeWhile_cons_of_pos hp, List.takeWhile_cons_of_pos hq, List.dropWhile_cons_of_pos hp, List.dropWhile_cons_of_pos hq, ih.1, ih.2]
      exact ⟨rfl, rfl⟩
    · have hq : ¬ q a = true := ha ▸ hp
      rw [List.takeWhile_cons_of_neg hp, List.takeWhile_cons_of_neg hq, List.dropWhile_cons_of_neg hp, List.dropWhile_cons_of_neg hq]
      exact ⟨rfl, rfl⟩
theorem isB_32 {l : List Nat} (h : 9 ∉ l) : ∀ c ∈ l, isB c = (c == 32) := fun c hc => by
  have : c ≠ 9 := fun e => h (e ▸ hc)
  simp [isB, this]
theorem drop_bEnd (x : Str) (i : Nat) : (tl x).drop (bEnd x i) = ((tl x).drop i).dropWhile isB := by
  unfold bEnd
  rw [← List.drop_drop, drop_tw]
theorem not_in_drop {x : Str} (h : 9 ∉ tl x) (i : Nat) : 9 ∉ (tl x).drop i := fun hm => h (List.mem_of_mem_drop hm)
theorem slice_to {x : Str} {a b : Nat} (hab : a ≤ b) (hb : b ≤ x.length) : Txt.slice x (some (a : Int)) (some (b : Int)) = S (((tl x).drop a).take (b - a)) := sliceText_nat x hab hb
theorem slice_from {x : Str} {a : Nat} (ha : a ≤ x.length) : Txt.slice x (some (a : Int)) none = S ((tl x).drop a) := by
  have h : Txt.slice x (some (a : Int)) none = Txt.slice x (some (a : Int)) (some (x.length : Int)) := by
    unfold Txt.slice
    rw [sliceIdx_none_hi]
  rw [h, slice_to ha (Nat.le_refl _), List.take_of_length_le (by rw [List.length_drop, tl_len]; exact Nat.le_refl _)]
theorem slice_one {x : Str} {a : Nat} (ha : a ≤ x.length) : Txt.slice x (some (a : Int)) (some ((a : Int) + 1)) = S (((tl x).drop a).take 1) := by
  by_cases h : a + 1 ≤ x.length
  · have := slice_to (x := x) (Nat.le_succ a) h
    rw [show a.succ - a = 1 by (first | lia | omega)] at this
    exact this
  · have ea : a = x.length := by (first | lia | omega)
    subst ea
    have hd : (tl x).drop x.length = [] := drop_end (Nat.le_refl _)
    rw [hd]
    unfold Txt.slice
    have e : strSliceIndices (some (x.length : Int)) (some ((x.length : Int) + 1)) 1 x.length = [] := by
      have h0 : ¬ ((x.length : Int) < 0) := by (first | lia | omega)
      have h1 : ¬ ((x.length : Int) + 1 < 0) := by (first | lia | omega)
      have h2 : min ((x.length : Int) + 1) x.length = x.length := by (first | lia | omega)
      simp [strSliceIndices, sliceRange, h0, h1, h2]
    rw [e]
    split
    · rename_i h9
      have h9 : 0 = x.length := by simpa using h9
      exact PySem.Str.ext' (Array.eq_empty_of_size_eq_zero (by rw [show x.cps.size = x.length from rfl, ← h9]))
    · rfl
theorem slice_q {x : Str} {a : Nat} (ha : a ≤ x.length) : (Txt.slice x (some (a : Int)) (some ((a : Int) + 1)) == Str.ofString "\"") = (((tl x).drop a).head? == some 34) := by
  rw [slice_one ha]
  rcases (tl x).drop a with _ | ⟨c, r⟩
  · decide
  · show (S [c] == (⟨#[34]⟩ : Str)) = _
    rw [show S [c] = (⟨#[c]⟩ : Str) from rfl, sign_eq]
    by_cases h : c = 34
    · subst h; rfl
    · rw [decide_eq_false h]
      symm
      exact beq_eq_false_iff_ne.mpr (fun e => h (Option.some.inj e))
theorem find3_list {x : Str} {i : Nat} (hi : i ≤ x.length) (c : Nat) : (Txt.find3 x ⟨#[c]⟩ (i : Int) = -1 ∧ ((tl x).drop i).dropWhile (fun d => d != c) = []) ∨
    (Txt.find3 x ⟨#[c]⟩ (i : Int) = ((i + (((tl x).drop i).takeWhile (fun d => d != c)).length : Nat) : Int) ∧ ((tl x).drop i).dropWhile (fun d => d != c) = c :: (tl x).drop (i + (((tl x).drop i).takeWhile (fun d => d != c)).length + 1)) := by
  have hf : fromIndex x.length (i : Int) = i := fromIx _ _
  rcases find3_spec x c (i : Int) with ⟨e, hn⟩ | ⟨k, e, h1, h2, h3, h4⟩
  · left
    refine ⟨e, ?_⟩
    rw [hf] at hn
    have key : ∀ d ∈ (tl x).drop i, (d != c) = true := fun d hd => by
      obtain ⟨j, hj, rfl⟩ := List.getElem_of_mem hd
      rw [List.length_drop, tl_len] at hj
      have hv := hn (i + j) (by (first | lia | omega)) (by (first | lia | omega))
      rw [List.getElem_drop]
      have hs : i + j < x.cps.size := by show i + j < x.length; (first | lia | omega)
      have eg : x.cps.getD (i + j) 0 = (tl x)[i + j]'(by rw [tl_len]; (first | lia | omega)) := by simp [Array.getD, hs]
      rw [eg] at hv
      simpa using hv
    exact dw_nil key
  · right
    rw [hf] at h1 h4
    have hk : (((tl x).drop i).takeWhile (fun d => d != c)).length = k - i := by
      have hsplit : (tl x).drop i = ((tl x).drop i).take (k - i) ++ (tl x).drop k := by
        have := List.take_append_drop (k - i) ((tl x).drop i)
        rw [List.drop_drop, show i + (k - i) = k by (first | lia | omega)] at this
        exact this.symm
      have hall : ∀ d ∈ ((tl x).drop i).take (k - i), (d != c) = true := fun d hd => by
        obtain ⟨j, hj, rfl⟩ := List.getElem_of_mem hd
        have hj' := hj
        rw [List.length_take, List.length_drop, tl_len] at hj'
        rw [List.getElem_take, List.getElem_drop]
        have hv := h4 (i + j) (by (first | lia | omega)) (by (first | lia | omega))
        have hs : i + j < x.cps.size := by show i + j < x.length; (first | lia | omega)
        have eg : x.cps.getD (i + j) 0 = (tl x)[i + j]'(by rw [tl_len]; (first | lia | omega)) := by simp [Array.getD, hs]
        rw [eg] at hv
        simpa using hv
      have hdk := drop_at h2
      rw [h3] at hdk
      rw [hsplit, hdk, List.takeWhile_append_of_pos hall, List.takeWhile_cons_of_neg (by simp), List.append_nil, List.length_take, List.length_drop, tl_len]
      (first | lia | omega)
    rw [hk, show i + (k - i) = k by (first | lia | omega)]
    refine ⟨e, ?_⟩
    have h5 := drop_tw (p := fun d => d != c) ((tl x).drop i)
    rw [hk, List.drop_drop, show i + (k - i) = k by (first | lia | omega)] at h5
    rw [← h5, drop_at h2, h3]
theorem rstrip_same {l : List Nat} (h : 9 ∉ l) : Txt.rstripChars (S l) (Str.ofString " \t") = rsp (S l) := by
  unfold rsp Txt.rstripChars
  rw [PyProof.Rows.stripBy_eq, PyProof.Rows.stripBy_eq]
  have hb : ∀ c ∈ l.reverse, (Str.ofString " \t").cps.contains c = (Str.ofString " ").cps.contains c := fun c hc => by
    have : c ≠ 9 := fun e => h (e ▸ List.mem_reverse.mp hc)
    show (#[32, 9] : Array Nat).contains c = (#[32] : Array Nat).contains c
    simp [this]
  have e : stripHi (Str.ofString " \t").cps.contains true (S l) 0 = stripHi (Str.ofString " ").cps.contains true (S l) 0 := by
    unfold stripHi
    simp only [if_true, List.drop_zero]
    rw [show (S l).cps.toList.reverse = l.reverse from rfl, (tw_congr hb).1]
  show strSub (S l) 0 (stripHi _ true (S l) 0) = strSub (S l) 0 (stripHi _ true (S l) 0)
  rw [e]
end Mine
end
section
namespace Mine
theorem startT4 : True := by
  w_top off
  trivial
end Mine
open PySem PySem.W PyProof.Rows PySem.Builtin.Str PySem.StrLaws
namespace Mine
theorem drop_nil_len {x : Str} {a : Nat} (ha : a ≤ x.length) (h : (tl x).drop a = []) : a = x.length := by
  have := congrArg List.length h
  rw [List.length_drop, tl_len] at this
  simp at this
  (first | lia | omega)
theorem drop_cons_lt {x : Str} {a c : Nat} {t : List Nat} (h : (tl x).drop a = c :: t) : a < x.length ∧ x.cps.getD a 0 = c ∧ (tl x).drop (a + 1) = t := by
  have hl : a < x.length := by
    have := congrArg List.length h
    rw [List.length_drop, tl_len] at this
    simp at this
    (first | lia | omega)
  have := drop_at hl
  rw [h] at this
  cases this
  exact ⟨hl, rfl, rfl⟩
/-- what is left behind the field's end -/
noncomputable def restAt (x : Str) (e : Nat) : Option (List Nat) := if e < x.length then some ((tl x).drop (e + 1)) else none
theorem restAt_len (x : Str) : restAt x x.length = none := if_neg (Nat.lt_irrefl _)
theorem field_same {x : Str} {i : Nat} (ht : 9 ∉ tl x) (hi : i ≤ x.length) :
    (fieldF x i).1 = (lawField ((tl x).drop i)).1 ∧ ((fieldF x i).1 ≠ none → (lawField ((tl x).drop i)).2 = restAt x (fieldF x i).2) := by
  have hb := bEnd_le hi
  have hl1 : (tl x).drop (bEnd x i) = ((tl x).drop i).dropWhile (fun c => c == 32) := by
    rw [drop_bEnd, (tw_congr (isB_32 (not_in_drop ht i))).2]
  have hq := slice_q hb.2
  have e44 : Str.ofString "," = ⟨#[44]⟩ := by decide
  have e34 : Str.ofString "\"" = ⟨#[34]⟩ := by decide
  unfold fieldF lawField
  rw [hq, ← hl1]
  generalize ha : bEnd x i = a at hb
  rcases hc : (tl x).drop a with _ | ⟨n, u⟩
  · have ea := drop_nil_len hb.2 hc
    rw [if_neg (by intro h; cases h)]
    have hf := find3_list hb.2 44
    rw [hc] at hf
    rcases hf with ⟨h1, _⟩ | ⟨_, h2⟩
    · rw [e44, h1, if_pos (by decide), slice_to hb.2 (Nat.le_refl _), hc, List.take_nil, rstrip_same (by intro h; cases h), rsp_nil]
      exact ⟨rfl, fun _ => (restAt_len x).symm⟩
    · cases h2
  · obtain ⟨hal, _, hu⟩ := drop_cons_lt hc
    by_cases hn : n = 34
    · subst hn
      rw [if_pos (show ((34 :: u).head? == some 34) = true from rfl)]
      dsimp only
      rw [if_pos (show (34 : Nat) = 34 from rfl)]
      have hf := find3_list (x := x) (i := a + 1) hal 34
      rw [hu] at hf
      have eq1 : quotedF x a = if Txt.find3 x (Str.ofString "\"") ((a : Int) + 1) < 0 then (Txt.slice x (some ((a : Int) + 1)) none, x.length)
          else (Txt.slice x (some ((a : Int) + 1)) (some (Txt.find3 x (Str.ofString "\"") ((a : Int) + 1))), bEnd x (Txt.find3 x (Str.ofString "\"") ((a : Int) + 1) + 1).toNat) := by unfold quotedF; rfl
      rw [show ((a : Int) + 1) = ((a + 1 : Nat) : Int) from rfl, e34] at eq1
      rcases hf with ⟨h1, h2⟩ | ⟨h1, h2⟩
      · rw [h1, if_pos (by decide), slice_from hal, hu] at eq1
        rw [eq1, h2]
        dsimp only
        rw [if_pos (.inl rfl)]
        exact ⟨rfl, fun _ => (restAt_len x).symm⟩
      · have hsl : a + 1 + (List.takeWhile (fun d => d != 34) u).length ≤ x.length := by
          have := takeWhile_len (p := fun d => d != 34) u
          have h3 := congrArg List.length hu
          rw [List.length_drop, tl_len] at h3
          (first | lia | omega)
        rw [h1, if_neg (by (first | lia | omega)), slice_to (Nat.le_add_right _ _) hsl, hu, show a + 1 + (List.takeWhile (fun d => d != 34) u).length - (a + 1) = (List.takeWhile (fun d => d != 34) u).length by (first | lia | omega), take_tw,
          show (((a + 1 + (List.takeWhile (fun d => d != 34) u).length : Nat) : Int) + 1).toNat = a + 1 + (List.takeWhile (fun d => d != 34) u).length + 1 by (first | lia | omega)] at eq1
        rw [eq1, h2]
        dsimp only
        have hvl : a + 1 + (List.takeWhile (fun d => d != 34) u).length + 1 ≤ x.length := by
          have h3 := congrArg List.length hu
          rw [List.length_drop, tl_len] at h3
          have h4 := dw_len h2
          have h5 := congrArg List.length (List.takeWhile_append_dropWhile (p := fun d => d != 34) (l := u))
          rw [List.length_append, h2] at h5
          simp at h5
          (first | lia | omega)
        generalize hk : a + 1 + (List.takeWhile (fun d => d != 34) u).length + 1 = k at hvl
        have hb2 := bEnd_le hvl
        have hd2 : (tl x).drop (bEnd x k) = ((tl x).drop k).dropWhile (fun c => c == 32) := by
          rw [drop_bEnd, (tw_congr (isB_32 (not_in_drop ht k))).2]
        rw [← hd2]
        rcases hc2 : (tl x).drop (bEnd x k) with _ | ⟨c, t⟩
        · have ee := drop_nil_len hb2.2 hc2
          rw [if_pos (.inl (by rw [ee]))]
          exact ⟨rfl, fun _ => by rw [ee]; exact (restAt_len x).symm⟩
        · obtain ⟨he1, he2, he3⟩ := drop_cons_lt hc2
          have hcond : ((((bEnd x k : Nat) : Int) = (x.length : Int)) ∨ (Txt.item x ((bEnd x k : Nat) : Int) == Str.ofString ",") = true) ↔ c = 44 := by
            rw [item_nat he1, he2, e44, sign_eq, decide_eq_true_eq]
            constructor
            · rintro (h | h)
              · (first | lia | omega)
              · exact h
            · exact .inr
          dsimp only
          by_cases hc44 : c = 44
          · rw [if_pos (hcond.mpr hc44), if_pos hc44]
            refine ⟨rfl, fun _ => ?_⟩
            unfold restAt
            rw [if_pos he1, he3]
          · rw [if_neg (fun h => hc44 (hcond.mp h)), if_neg hc44]
            exact ⟨rfl, fun h => absurd rfl h⟩
    · rw [if_neg (by
        intro h
        exact hn (Option.some.inj (beq_iff_eq.mp h)))]
      dsimp only
      rw [if_neg hn]
      have h9 : 9 ∉ n :: u := hc ▸ not_in_drop ht a
      have hf := find3_list hb.2 44
      rw [hc] at hf
      rw [e44]
      rcases hf with ⟨h1, h2⟩ | ⟨h1, h2⟩
      · rw [h1, if_pos (by decide), h2, slice_to hb.2 (Nat.le_refl _), hc, List.take_of_length_le (by
          have h3 := congrArg List.length hc
          rw [List.length_drop, tl_len] at h3
          (first | lia | omega)), rstrip_same h9]
        exact ⟨rfl, fun _ => (restAt_len x).symm⟩
      · have hlen : a + (n :: u).length = x.length := by
          have h3 := congrArg List.length hc
          rw [List.length_drop, tl_len] at h3
          (first | lia | omega)
        have htl := takeWhile_len (p := fun d => d != 44) (n :: u)
        rw [h1, if_neg (by (first | lia | omega)), h2, slice_to (Nat.le_add_right _ _) (by (first | lia | omega)), hc, show a + (List.takeWhile (fun d => d != 44) (n :: u)).length - a = (List.takeWhile (fun d => d != 44) (n :: u)).length by (first | lia | omega), take_tw,
          rstrip_same (fun h => h9 ((List.takeWhile_sublist _).subset h)), Int.toNat_natCast]
        refine ⟨rfl, fun _ => ?_⟩
        unfold restAt
        dsimp only
        have h5 := congrArg List.length (List.takeWhile_append_dropWhile (p := fun d => d != 44) (l := n :: u))
        rw [List.length_append, h2] at h5
        rw [if_pos (by simp at h5 hlen; (first | lia | omega))]
theorem parted_go {x : Str} (ht : 9 ∉ tl x) : ∀ (k i : Nat) (fs : List Str), i ≤ x.length → x.length + 1 ≤ k + i →
    (lpRun x.length i ((tl x).drop i ++ [44]) (fs, e0, .before)).map (·.1) = (partedG k x i).map (fs ++ ·) := by
  intro k
  induction k with
  | zero => intro i fs hi hk; (first | lia | omega)
  | succ k ih =>
    intro i fs hi hk
    have hlen : i + ((tl x).drop i).length = x.length := by rw [List.length_drop, tl_len]; (first | lia | omega)
    rw [lp_before x.length _ i fs hlen]
    obtain ⟨h1, h2⟩ := field_same ht hi
    have hle := fieldF_le hi
    rcases hf : (fieldF x i).1 with _ | f
    · rw [partedG_none hf]
      rw [hf] at h1
      rcases hl : lawField ((tl x).drop i) with ⟨a, b⟩
      rw [hl] at h1
      cases h1
      rfl
    · rw [hf] at h1
      have h3 := h2 (by rw [hf]; exact fun h => by cases h)
      rcases hl : lawField ((tl x).drop i) with ⟨a, b⟩
      rw [hl] at h1 h3
      cases h1
      dsimp only at h3
      subst h3
      by_cases hlt : (fieldF x i).2 < x.length
      · rw [partedG_go hf hlt]
        have hr : restAt x (fieldF x i).2 = some ((tl x).drop ((fieldF x i).2 + 1)) := if_pos hlt
        rw [hr]
        dsimp only
        have e : x.length - ((tl x).drop ((fieldF x i).2 + 1)).length = (fieldF x i).2 + 1 := by rw [List.length_drop, tl_len]; (first | lia | omega)
        rw [e, ih _ _ (by (first | lia | omega)) (by (first | lia | omega))]
        cases partedG k x ((fieldF x i).2 + 1) <;> simp
      · rw [partedG_end hf hlt]
        have hr : restAt x (fieldF x i).2 = none := if_neg hlt
        rw [hr]
        rfl
theorem parted_same {x : Str} (ht : 9 ∉ tl x) : lawPartedF x = partedF x := by
  have h := parted_go ht (x.length + 1) 0 [] (Nat.zero_le _) (by (first | lia | omega))
  rw [List.drop_zero] at h
  unfold lawPartedF partedF
  rw [h]
  cases partedG (x.length + 1) x 0 <;> simp
end Mine
end
section
namespace Mine
theorem startC10 : True := by
  w_top off
  trivial
end Mine
open PySem PySem.W PyProof.Rows PySem.Calls PyProof.V PySem.Spec
open PyProof.Rows.LCp PyProof.Rows.LCg
namespace Mine

noncomputable def RowOk (x : Str) : Prop := x.length ≤ 20 ∧ PyData.strOk x = true ∧ 9 ∉ tl x
noncomputable abbrev PartOk (y : Str) : Prop := y.length ≤ 5 ∧ PyData.strOk y = true ∧ 9 ∉ tl y
noncomputable abbrev lawFields : List Str := [Str.ofString "7", Str.ofString " 12 ", Str.ofString "x", Str.ofString "", Str.ofString "\"a,b\"", Str.ofString "\"q\" ", Str.ofString "\"z\" y", Str.ofString "\"open", Str.ofString "a b", Str.ofString "0", Str.ofString "\"\"", Str.ofString "5x"]
theorem fields_ok (k : Nat) : PartOk (lawFields.getD k Str.empty) := by
  by_cases h : k < 12
  · have key : ∀ k ∈ List.range 12, PartOk (lawFields.getD k Str.empty) := by decide +kernel
    exact key k (List.mem_range.mpr h)
  · have e : lawFields.getD k Str.empty = Str.empty := by
      rw [List.getD_eq_getElem?_getD, List.getElem?_eq_none (by simpa using h)]; rfl
    rw [e]
    decide +kernel
theorem row_join {xs : List Str} (hl : xs.length ≤ 3) (h : ∀ y ∈ xs, PartOk y) : RowOk (Txt.join (Str.ofString ",") xs) := by
  have e : Txt.join (Str.ofString ",") xs = Str.join (Str.ofString ",") xs := StrLaws.glued_eq_join _ _
  rw [e]
  have mem : ∀ c ∈ tl (Str.join (Str.ofString ",") xs), (∃ t ∈ xs, c ∈ tl t) ∨ c = 44 := fun c hc => by
    rcases (mem_join _ c xs).mp hc with h | ⟨_, h⟩
    · exact .inl h
    · refine .inr ?_
      rw [show (Str.ofString ",").cps.toList = [44] by decide] at h
      exact List.mem_singleton.mp h
  refine ⟨?_, ?_, ?_⟩
  · have h1 := StrLaws.join_length_le (Str.ofString ",") xs
    have h2 := StrLaws.sumLen_le (B := 5) xs (fun y hy => (h y hy).1)
    have h3 : (Str.ofString ",").length = 1 := by decide
    rw [h3] at h1
    omega
  · unfold PyData.strOk
    rw [Array.all_eq_true_iff_forall_mem]
    intro c hc
    rcases mem c (Array.mem_toList_iff.mpr hc) with ⟨t, ht, hct⟩ | rfl
    · have := (h t ht).2.1
      unfold PyData.strOk at this
      rw [Array.all_eq_true_iff_forall_mem] at this
      exact this c (Array.mem_toList_iff.mp hct)
    · decide
  · intro h9
    rcases mem 9 h9 with ⟨t, ht, hct⟩ | h
    · exact (h t ht).2.2 hct
    · cases h
local macro_rules | `(tactic| walk_at "eval ListComp") => `(tactic| (refine Stop.out ?_))
local macro_rules | `(tactic| walk_at "eval ListComp Subscript cons") => `(tactic| (refine Stop.out ?_))
set_option maxHeartbeats 4000000 in
theorem law_row_c (w : World) (n : Int) (tn : Tok) (h0 : 0 ≤ n) (news : List (Addr × Obj)) :
    Ctr w 200 2 64 [.int n tn] news (fun base L h₀ m s Q E => ∀ x, RowOk x → Ret h₀ L m s Q news (fun t => .str x t)) := by
  unfold Ctr
  k_fill
  intro p loose mean mg mb dp un gd cn cs a ccd cl outer A₀ base h₀ L m s Q E B F X N T hk hdp hu hret
  refine wpAny_call ?_
  k_dflt (refine' code_defC ?k1 ?k2 ?k3 ?k4 ?k5 ?kA ?kF ?kK ?k6 ?k7 ?k8 ?k9 ?kB ?kD ?_ ?c2 ?c3 ?c4; (case kA => exact rfl); (case kF => exact rfl); (case kK => assumption); (case k1 => k_asm); (case k2 => k_asm); (case k3 => k_asm); (case k4 => k_asm); (case k5 => k_asm); (case k6 => k_is); (case k7 => k_is); (case k8 => ktr_room); (case k9 => exact BindsTo.of_eq rfl); (case kB => exact rfl); (case kD => decide +kernel); (case c2 => exact rfl); (case c3 => exact rfl); (case c4 => exact rfl); k_whole; intro g' L' h' tk' cells' FG' F' N' Y' B' X' T' l1; (try k_lt l1); k_cells Y'; (try simp only [List.cons_append, List.nil_append] at N'); (try dsimp only); (try k_fold))
  k_steps
  refine Stop.mk ?_
  refine gc_eval F' (by with_unfolding_all rfl) (by decide) rfl (by decide) ?_
  k_steps
  have hm3 : 0 ≤ Int.fmod n 3 ∧ Int.fmod n 3 < 3 := ⟨Int.fmod_nonneg h0 (by decide), Int.fmod_lt_of_pos n (by decide)⟩
  rename (IsRange _ _ _ _ _ _ _ _) => hR
  rename (Fr _ _ _ _) => lF
  rename (News _ _ _ _) => lN
  refine gs_range (n := (1 + Int.fmod n 3).toNat) (fun i ys nx => nx = (L' + 1, _) :: news ∧ ∃ xs, StrsAre ys xs ∧ xs.length = i ∧ ∀ y ∈ xs, y.length ≤ 5 ∧ PyData.strOk y = true ∧ 9 ∉ tl y) rfl lF lN hR ?h1 ?h2 (by rw [sizeLine_eq]; omega) rfl rfl ⟨rfl, [], .nil, rfl, List.forall_mem_nil _⟩ ?turn ?fin
  case h1 => exact small_one (by omega) (by omega) (by omega) (by omega)
  case h2 =>
    rw [rangeSize_one, if_pos (by omega)]
    omega
  case turn =>
    rintro s' ⟨hp', rfl⟩
    intro i ys nx C oC D m₂ own h tk E' hi hPP hJ hoC F1 N1
    obtain ⟨rfl, xs, hys, hxl, hxs⟩ := hJ
    obtain ⟨v, ⟨hin, t, rfl⟩, hm⟩ := hPP
    clear lF lN
    dsimp only
    (try k_fold)
    k_steps
    refine ⟨_, _, _, rfl, by k_asm, by k_asm, fun p hp => .inl ⟨p, hp, rfl⟩, rfl, ?_⟩
    refine ⟨xs ++ [_], hys.append' (.cons _ _ .nil), by rw [List.length_append, hxl]; rfl, fun y hy => ?_⟩
    rcases List.mem_append.mp hy with hy | hy
    · exact hxs y hy
    · rw [List.mem_singleton.mp hy]
      exact fields_ok _
  case fin =>
    rintro s' ⟨hp', rfl⟩
    intro D ys nx hD1 hD2 hJ
    obtain ⟨rfl, xs, hys, hxl, hxs⟩ := hJ
    intro h tk F1 N1
    clear lF lN
    dsimp only
    k_steps
    have hx3 : xs.length ≤ 3 := by omega
    have hsum := StrLaws.sumLen_le (B := 5) xs (fun y hy => (hxs y hy).1)
    refine join_list (News.isList N1 (List.Mem.head _)) hys (by rw [show (Str.ofString ",").length = 1 by decide]; omega) ?_
    intro t9 k9
    k_steps
    rename (News h₀ _ _ _) => hN
    exact hret _ (row_join hx3 hxs) _ _ _ _ rfl (by k_asm) (ndrop (a := []) (b := [_, _]) hN)
end Mine
end
section
local macro_rules | `(tactic| walk_at "no such key 0") => `(tactic| skip)
theorem Mine.resetC13 : True ∧ True := by
  first | (walk1; done) | exact ⟨trivial, trivial⟩
end
section
namespace Mine
theorem startC13 : True := by
  w_top off
  trivial
end Mine
open PySem PySem.W PyProof.Rows PySem.Calls PyProof.V PySem.Spec
namespace Mine
local macro_rules | `(tactic| walk_at "execs cons") => `(tactic| (k_here; (fail_if_success (fail_if_success k_gentoks)); with_reducible refine genTok ?_; intro tk))
local macro_rules | `(tactic| walk_at "execs nil") => `(tactic| (k_here; (fail_if_success (fail_if_success k_gentoks)); with_reducible refine genTok ?_; intro tk))

noncomputable abbrev wEnt (w : World) (T : Nat → Tok) (U : Nat → Value) (ov rv iv dv sv : Value) : List DictEntry := [⟨PyData.keyHash w.params (Str.ofString "bits"), .str (Str.ofString "bits") (T 0), (U 0)⟩, ⟨PyData.keyHash w.params (Str.ofString "digits"), .str (Str.ofString "digits") (T 1), (U 1)⟩, ⟨PyData.keyHash w.params (Str.ofString "most_steps"), .str (Str.ofString "most_steps") (T 2), (U 2)⟩, ⟨PyData.keyHash w.params (Str.ofString "most_depth"), .str (Str.ofString "most_depth") (T 3), (U 3)⟩, ⟨PyData.keyHash w.params (Str.ofString "room"), .str (Str.ofString "room") (T 4), (U 4)⟩, ⟨PyData.keyHash w.params (Str.ofString "names"), .str (Str.ofString "names") (T 5), (U 5)⟩, ⟨PyData.keyHash w.params (Str.ofString "arrays"), .str (Str.ofString "arrays") (T 6), (U 6)⟩, ⟨PyData.keyHash w.params (Str.ofString "kinds"), .str (Str.ofString "kinds") (T 7), (U 7)⟩, ⟨PyData.keyHash w.params (Str.ofString "fns"), .str (Str.ofString "fns") (T 8), (U 8)⟩, ⟨PyData.keyHash w.params (Str.ofString "out"), .str (Str.ofString "out") (T 9), ov⟩, ⟨PyData.keyHash w.params (Str.ofString "row"), .str (Str.ofString "row") (T 10), rv⟩, ⟨PyData.keyHash w.params (Str.ofString "inputs"), .str (Str.ofString "inputs") (T 11), iv⟩, ⟨PyData.keyHash w.params (Str.ofString "files"), .str (Str.ofString "files") (T 12), (U 9)⟩, ⟨PyData.keyHash w.params (Str.ofString "open"), .str (Str.ofString "open") (T 13), (U 10)⟩, ⟨PyData.keyHash w.params (Str.ofString "fields"), .str (Str.ofString "fields") (T 14), (U 11)⟩, ⟨PyData.keyHash w.params (Str.ofString "data"), .str (Str.ofString "data") (T 15), dv⟩, ⟨PyData.keyHash w.params (Str.ofString "spot"), .str (Str.ofString "spot") (T 16), sv⟩, ⟨PyData.keyHash w.params (Str.ofString "base"), .str (Str.ofString "base") (T 17), (U 12)⟩, ⟨PyData.keyHash w.params (Str.ofString "seed"), .str (Str.ofString "seed") (T 18), (U 13)⟩, ⟨PyData.keyHash w.params (Str.ofString "steps"), .str (Str.ofString "steps") (T 19), (U 14)⟩, ⟨PyData.keyHash w.params (Str.ofString "depth"), .str (Str.ofString "depth") (T 20), (U 15)⟩, ⟨PyData.keyHash w.params (Str.ofString "handler"), .str (Str.ofString "handler") (T 21), (U 16)⟩, ⟨PyData.keyHash w.params (Str.ofString "is_handling"), .str (Str.ofString "is_handling") (T 22), (U 17)⟩, ⟨PyData.keyHash w.params (Str.ofString "error_line"), .str (Str.ofString "error_line") (T 23), (U 18)⟩, ⟨PyData.keyHash w.params (Str.ofString "error_code"), .str (Str.ofString "error_code") (T 24), (U 19)⟩, ⟨PyData.keyHash w.params (Str.ofString "is_traced"), .str (Str.ofString "is_traced") (T 25), (U 20)⟩, ⟨PyData.keyHash w.params (Str.ofString "traces"), .str (Str.ofString "traces") (T 26), (U 21)⟩, ⟨PyData.keyHash w.params (Str.ofString "common"), .str (Str.ofString "common") (T 27), (U 22)⟩]
noncomputable def WD (w : World) (ov rv iv dv sv : Value) (es : List DictEntry) : Prop := ∃ T U, es = wEnt w T U ov rv iv dv sv
theorem WD.of {w : World} {ov rv iv dv sv : Value} {t0 t1 t2 t3 t4 t5 t6 t7 t8 t9 t10 t11 t12 t13 t14 t15 t16 t17 t18 t19 t20 t21 t22 t23 t24 t25 t26 t27 : Tok} {u0 u1 u2 u3 u4 u5 u6 u7 u8 u9 u10 u11 u12 u13 u14 u15 u16 u17 u18 u19 u20 u21 u22 : Value} : WD w ov rv iv dv sv [⟨PyData.keyHash w.params (Str.ofString "bits"), .str (Str.ofString "bits") t0, u0⟩, ⟨PyData.keyHash w.params (Str.ofString "digits"), .str (Str.ofString "digits") t1, u1⟩, ⟨PyData.keyHash w.params (Str.ofString "most_steps"), .str (Str.ofString "most_steps") t2, u2⟩, ⟨PyData.keyHash w.params (Str.ofString "most_depth"), .str (Str.ofString "most_depth") t3, u3⟩, ⟨PyData.keyHash w.params (Str.ofString "room"), .str (Str.ofString "room") t4, u4⟩, ⟨PyData.keyHash w.params (Str.ofString "names"), .str (Str.ofString "names") t5, u5⟩, ⟨PyData.keyHash w.params (Str.ofString "arrays"), .str (Str.ofString "arrays") t6, u6⟩, ⟨PyData.keyHash w.params (Str.ofString "kinds"), .str (Str.ofString "kinds") t7, u7⟩, ⟨PyData.keyHash w.params (Str.ofString "fns"), .str (Str.ofString "fns") t8, u8⟩, ⟨PyData.keyHash w.params (Str.ofString "out"), .str (Str.ofString "out") t9, ov⟩, ⟨PyData.keyHash w.params (Str.ofString "row"), .str (Str.ofString "row") t10, rv⟩, ⟨PyData.keyHash w.params (Str.ofString "inputs"), .str (Str.ofString "inputs") t11, iv⟩, ⟨PyData.keyHash w.params (Str.ofString "files"), .str (Str.ofString "files") t12, u9⟩, ⟨PyData.keyHash w.params (Str.ofString "open"), .str (Str.ofString "open") t13, u10⟩, ⟨PyData.keyHash w.params (Str.ofString "fields"), .str (Str.ofString "fields") t14, u11⟩, ⟨PyData.keyHash w.params (Str.ofString "data"), .str (Str.ofString "data") t15, dv⟩, ⟨PyData.keyHash w.params (Str.ofString "spot"), .str (Str.ofString "spot") t16, sv⟩, ⟨PyData.keyHash w.params (Str.ofString "base"), .str (Str.ofString "base") t17, u12⟩, ⟨PyData.keyHash w.params (Str.ofString "seed"), .str (Str.ofString "seed") t18, u13⟩, ⟨PyData.keyHash w.params (Str.ofString "steps"), .str (Str.ofString "steps") t19, u14⟩, ⟨PyData.keyHash w.params (Str.ofString "depth"), .str (Str.ofString "depth") t20, u15⟩, ⟨PyData.keyHash w.params (Str.ofString "handler"), .str (Str.ofString "handler") t21, u16⟩, ⟨PyData.keyHash w.params (Str.ofString "is_handling"), .str (Str.ofString "is_handling") t22, u17⟩, ⟨PyData.keyHash w.params (Str.ofString "error_line"), .str (Str.ofString "error_line") t23, u18⟩, ⟨PyData.keyHash w.params (Str.ofString "error_code"), .str (Str.ofString "error_code") t24, u19⟩, ⟨PyData.keyHash w.params (Str.ofString "is_traced"), .str (Str.ofString "is_traced") t25, u20⟩, ⟨PyData.keyHash w.params (Str.ofString "traces"), .str (Str.ofString "traces") t26, u21⟩, ⟨PyData.keyHash w.params (Str.ofString "common"), .str (Str.ofString "common") t27, u22⟩] :=
  ⟨fun i => [t0, t1, t2, t3, t4, t5, t6, t7, t8, t9, t10, t11, t12, t13, t14, t15, t16, t17, t18, t19, t20, t21, t22, t23, t24, t25, t26, t27].getD i 0, fun i => [u0, u1, u2, u3, u4, u5, u6, u7, u8, u9, u10, u11, u12, u13, u14, u15, u16, u17, u18, u19, u20, u21, u22].getD i .none, rfl⟩
noncomputable def wF (w : World) (T : Nat → Tok) (U : Nat → Value) (ov rv iv dv sv : Value) : List DictEntry := wEnt w T U ov rv iv dv sv
theorem WD.ent {w : World} {T : Nat → Tok} {U : Nat → Value} {ov rv iv dv sv : Value} : WD w ov rv iv dv sv (wF w T U ov rv iv dv sv) := ⟨T, U, rfl⟩
theorem WD.ex {w : World} {ov rv iv dv sv : Value} {es : List DictEntry} (h : WD w ov rv iv dv sv es) : ∃ T U, es = wF w T U ov rv iv dv sv := h
theorem foldW0 {h₀ h : Heap} {L dx : Addr} {w : World} {T : Nat → Tok} {U : Nat → Value} {ov rv iv dv sv : Value} {r : List (Addr × Obj)} (N : News h₀ L h ((dx, dictOf (wEnt w T U ov rv iv dv sv) 28) :: r)) {P : Prop} (k : News h₀ L h ((dx, dictOf (wF w T U ov rv iv dv sv) 28) :: r) → P) : P := k N
theorem foldW1 {h₀ h : Heap} {L dx : Addr} {w : World} {T : Nat → Tok} {U : Nat → Value} {ov rv iv dv sv : Value} {q0 : Addr × Obj} {r : List (Addr × Obj)} (N : News h₀ L h (q0 :: (dx, dictOf (wEnt w T U ov rv iv dv sv) 28) :: r)) {P : Prop} (k : News h₀ L h (q0 :: (dx, dictOf (wF w T U ov rv iv dv sv) 28) :: r) → P) : P := k N
theorem foldW2 {h₀ h : Heap} {L dx : Addr} {w : World} {T : Nat → Tok} {U : Nat → Value} {ov rv iv dv sv : Value} {q0 q1 : Addr × Obj} {r : List (Addr × Obj)} (N : News h₀ L h (q0 :: q1 :: (dx, dictOf (wEnt w T U ov rv iv dv sv) 28) :: r)) {P : Prop} (k : News h₀ L h (q0 :: q1 :: (dx, dictOf (wF w T U ov rv iv dv sv) 28) :: r) → P) : P := k N
theorem foldW3 {h₀ h : Heap} {L dx : Addr} {w : World} {T : Nat → Tok} {U : Nat → Value} {ov rv iv dv sv : Value} {q0 q1 q2 : Addr × Obj} {r : List (Addr × Obj)} (N : News h₀ L h (q0 :: q1 :: q2 :: (dx, dictOf (wEnt w T U ov rv iv dv sv) 28) :: r)) {P : Prop} (k : News h₀ L h (q0 :: q1 :: q2 :: (dx, dictOf (wF w T U ov rv iv dv sv) 28) :: r) → P) : P := k N
theorem foldW4 {h₀ h : Heap} {L dx : Addr} {w : World} {T : Nat → Tok} {U : Nat → Value} {ov rv iv dv sv : Value} {q0 q1 q2 q3 : Addr × Obj} {r : List (Addr × Obj)} (N : News h₀ L h (q0 :: q1 :: q2 :: q3 :: (dx, dictOf (wEnt w T U ov rv iv dv sv) 28) :: r)) {P : Prop} (k : News h₀ L h (q0 :: q1 :: q2 :: q3 :: (dx, dictOf (wF w T U ov rv iv dv sv) 28) :: r) → P) : P := k N
theorem foldW5 {h₀ h : Heap} {L dx : Addr} {w : World} {T : Nat → Tok} {U : Nat → Value} {ov rv iv dv sv : Value} {q0 q1 q2 q3 q4 : Addr × Obj} {r : List (Addr × Obj)} (N : News h₀ L h (q0 :: q1 :: q2 :: q3 :: q4 :: (dx, dictOf (wEnt w T U ov rv iv dv sv) 28) :: r)) {P : Prop} (k : News h₀ L h (q0 :: q1 :: q2 :: q3 :: q4 :: (dx, dictOf (wF w T U ov rv iv dv sv) 28) :: r) → P) : P := k N
theorem foldW6 {h₀ h : Heap} {L dx : Addr} {w : World} {T : Nat → Tok} {U : Nat → Value} {ov rv iv dv sv : Value} {q0 q1 q2 q3 q4 q5 : Addr × Obj} {r : List (Addr × Obj)} (N : News h₀ L h (q0 :: q1 :: q2 :: q3 :: q4 :: q5 :: (dx, dictOf (wEnt w T U ov rv iv dv sv) 28) :: r)) {P : Prop} (k : News h₀ L h (q0 :: q1 :: q2 :: q3 :: q4 :: q5 :: (dx, dictOf (wF w T U ov rv iv dv sv) 28) :: r) → P) : P := k N
theorem foldW7 {h₀ h : Heap} {L dx : Addr} {w : World} {T : Nat → Tok} {U : Nat → Value} {ov rv iv dv sv : Value} {q0 q1 q2 q3 q4 q5 q6 : Addr × Obj} {r : List (Addr × Obj)} (N : News h₀ L h (q0 :: q1 :: q2 :: q3 :: q4 :: q5 :: q6 :: (dx, dictOf (wEnt w T U ov rv iv dv sv) 28) :: r)) {P : Prop} (k : News h₀ L h (q0 :: q1 :: q2 :: q3 :: q4 :: q5 :: q6 :: (dx, dictOf (wF w T U ov rv iv dv sv) 28) :: r) → P) : P := k N
theorem foldW8 {h₀ h : Heap} {L dx : Addr} {w : World} {T : Nat → Tok} {U : Nat → Value} {ov rv iv dv sv : Value} {q0 q1 q2 q3 q4 q5 q6 q7 : Addr × Obj} {r : List (Addr × Obj)} (N : News h₀ L h (q0 :: q1 :: q2 :: q3 :: q4 :: q5 :: q6 :: q7 :: (dx, dictOf (wEnt w T U ov rv iv dv sv) 28) :: r)) {P : Prop} (k : News h₀ L h (q0 :: q1 :: q2 :: q3 :: q4 :: q5 :: q6 :: q7 :: (dx, dictOf (wF w T U ov rv iv dv sv) 28) :: r) → P) : P := k N
theorem allLt_trans {d e : Addr} : ∀ {l : List (Addr × Obj)}, AllLt d l → d < e → AllLt e l
  | [], _, _ => trivial
  | _ :: _, h, g => ⟨Nat.lt_trans h.1 g, allLt_trans h.2 g⟩
noncomputable def KA (es : List DictEntry) (ks : List Str) : Prop := es.length ≤ ks.length ∧ ∀ e ∈ es, ∃ k t, e.key = .str k t ∧ k ∈ ks
theorem KA.nil : KA [] [] := ⟨Nat.le_refl _, List.forall_mem_nil _⟩
theorem KA.snoc {es : List DictEntry} {ks : List Str} {h : Int} {k : Str} {t : Tok} {v : Value} (H : KA es ks) : KA (es ++ [⟨h, .str k t, v⟩]) (ks ++ [k]) := ⟨by rw [List.length_append, List.length_append]; exact Nat.add_le_add_right H.1 _, fun e he => by
  rcases List.mem_append.mp he with he | he
  · obtain ⟨k2, t2, e1, e2⟩ := H.2 e he
    exact ⟨k2, t2, e1, List.mem_append_left _ e2⟩
  · rw [List.mem_singleton.mp he]
    exact ⟨k, t, rfl, List.mem_append_right _ (List.mem_singleton.mpr rfl)⟩⟩
theorem KA.fresh {es : List DictEntry} {ks : List Str} {name : Str} (H : KA es ks) (hn : name ∉ ks) : ∀ e ∈ es, e.key.isStr name = false := fun e he => by
  obtain ⟨k, t, e1, e2⟩ := H.2 e he
  rw [e1]
  have : k ≠ name := fun q => hn (q ▸ e2)
  simpa [Value.isStr] using this
theorem putL_fresh {name : Str} {hsh : Int} {key v : Value} : ∀ {es : List DictEntry}, (∀ e ∈ es, e.key.isStr name = false) → putL name hsh key v es = es ++ [⟨hsh, key, v⟩]
  | [], _ => rfl
  | e :: r, h => by
    unfold putL
    rw [h e (.head _), putL_fresh fun x hx => h x (.tail _ hx)]
    rfl
theorem any_fresh {name : Str} {es : List DictEntry} (h : ∀ e ∈ es, e.key.isStr name = false) : es.any (·.key.isStr name) = false := by
  rw [List.any_eq_false]
  intro e he
  rw [h e he]
  exact Bool.false_ne_true
theorem KA.norefs {es : List DictEntry} {ks : List Str} (H : KA es ks) : es.any (·.refKey) = false := by
  rw [List.any_eq_false]
  intro e he
  obtain ⟨k, t, e1, -⟩ := H.2 e he
  simp [DictEntry.refKey, e1]
set_option maxHeartbeats 4000000 in
theorem ents {a1 a2 a3 a4 a5 a6 a7 a8 a9 a10 a11 a12 a13 a14 a15 a16 a17 a18 a19 a20 a21 a22 a23 a24 a25 a26 a27 a28 : DictEntry} {e1 e2 e3 e4 e5 e6 e7 e8 e9 e10 e11 e12 e13 e14 e15 e16 e17 e18 e19 e20 e21 e22 e23 e24 e25 e26 e27 e28 : List DictEntry} (h1 : [] ++ [a1] = e1) (h2 : e1 ++ [a2] = e2) (h3 : e2 ++ [a3] = e3) (h4 : e3 ++ [a4] = e4) (h5 : e4 ++ [a5] = e5) (h6 : e5 ++ [a6] = e6) (h7 : e6 ++ [a7] = e7) (h8 : e7 ++ [a8] = e8) (h9 : e8 ++ [a9] = e9) (h10 : e9 ++ [a10] = e10) (h11 : e10 ++ [a11] = e11) (h12 : e11 ++ [a12] = e12) (h13 : e12 ++ [a13] = e13) (h14 : e13 ++ [a14] = e14) (h15 : e14 ++ [a15] = e15) (h16 : e15 ++ [a16] = e16) (h17 : e16 ++ [a17] = e17) (h18 : e17 ++ [a18] = e18) (h19 : e18 ++ [a19] = e19) (h20 : e19 ++ [a20] = e20) (h21 : e20 ++ [a21] = e21) (h22 : e21 ++ [a22] = e22) (h23 : e22 ++ [a23] = e23) (h24 : e23 ++ [a24] = e24) (h25 : e24 ++ [a25] = e25) (h26 : e25 ++ [a26] = e26) (h27 : e26 ++ [a27] = e27) (h28 : e27 ++ [a28] = e28) : e28 = [a1, a2, a3, a4, a5, a6, a7, a8, a9, a10, a11, a12, a13, a14, a15, a16, a17, a18, a19, a20, a21, a22, a23, a24, a25, a26, a27, a28] := by
  subst h1 h2 h3 h4 h5 h6 h7 h8 h9 h10 h11 h12 h13 h14 h15 h16 h17 h18 h19 h20 h21 h22 h23 h24 h25 h26 h27 h28
  simp only [List.nil_append, List.cons_append]
theorem set_fresh {prog : Program} {w : World} {A : Around} {E : Value → Shared → Prop} {s : Shared} {K : Frag} {x C dx L : Addr} {h₀ : Heap} {m : Str → Option Value} {news : List (Addr × Obj)} {news' : List DictEntry → List (Addr × Obj)} {ox : Obj} {es : List DictEntry} {ks : List Str} {n : Nat} {name : Str} {v : Value} {Q : Unit → Shared → Prop}
    (F : Fr h₀ L s.heap m) (X₀ : K.In h₀) (N : News h₀ L s.heap news) (I : InstAt s.heap x ox C (some (dictOf es n))) (hd : ox.dict = some dx)
    (hs : findIn K (.ref C) "__setattr__" = some (some (.builtin "object.__setattr__"))) (hp : plainOver K C = true) (ht : takerIn K C name = some none) (hh : hasDictIn K C = true)
    (H : KA es ks) (hn : (!ks.contains name && Nat.ble ks.length 100) = true) (U : ∀ es', Upd dx (dictOf es n) (dictOf es' (n + 1)) news (news' es'))
    (h : ∀ h' es', es ++ [⟨PyData.keyHash w.params name, .str name (s.toks + 1), v⟩] = es' → KA es' (ks ++ [name]) → Fr h₀ L h' m → News h₀ L h' (news' es') → Q () { s with heap := h', toks := s.toks + 2 }) :
    wpAny (model prog w) A (setAttr (.ref x) name v) Q E s := by
  obtain ⟨hn1, hn2⟩ := Bool.and_eq_true_iff.mp hn
  have hn3 : name ∉ ks := by simpa using hn1
  have hf := H.fresh hn3
  refine set_dict F X₀ N I hd hs hp ht hh ?_ (Prod.ext (putL_fresh hf) ?_) (U _) ?_ (fun h' F' N' => h h' _ rfl H.snoc F' N')
  · unfold getL
    rw [List.find?_eq_none.mpr fun e he => by rw [hf e he]; exact Bool.false_ne_true]
    dsimp only
    rw [H.norefs]
    rfl
  · show putN name es n = n + 1
    unfold putN
    rw [any_fresh hf]
    rfl
  · rw [List.length_append]
    have := H.1
    have := Nat.le_of_ble_eq_true hn2
    simp only [List.length_cons, List.length_nil]
    omega
local macro_rules | `(tactic| walk_at "execs cons") => `(tactic| (refine Stop.out ?_))
set_option maxHeartbeats 4000000 in
theorem world_c (w : World) (news : List (Addr × Obj)) :
    Ctr w 166 3 128 [] news (fun base L h₀ m s Q E => ∀ (x dx oa ia da : Addr) es no t h2 tk2 r, r = .ref x → WD w (.ref oa) (.str (Str.ofString "") t) (.ref ia) (.ref da) (.int 0 no) es → AllLt dx news → AllLt x ((dx, dictOf es 28) :: news) → AllLt oa ((x, instObj 166 dx) :: (dx, dictOf es 28) :: news) → AllLt ia ((oa, W.listOf #[] 0) :: (x, instObj 166 dx) :: (dx, dictOf es 28) :: news) → AllLt da ((ia, W.listOf #[] 0) :: (oa, W.listOf #[] 0) :: (x, instObj 166 dx) :: (dx, dictOf es 28) :: news) →
      Fr h₀ L h2 m → News h₀ L h2 ((da, W.listOf #[] 0) :: (ia, W.listOf #[] 0) :: (oa, W.listOf #[] 0) :: (x, instObj 166 dx) :: (dx, dictOf es 28) :: news) → Q r { s with heap := h2, toks := tk2 }) := by
  unfold Ctr
  k_fill
  intro p loose mean mg mb dp un gd cn cs a ccd cl outer A₀ base h₀ L m s Q E B F X N T hk hdp hu hret
  refine' call_cls ?k1 ?k2 ?k3 ?k4 ?k5 ?k6 ?_; (case k1 => k_asm); (case k2 => k_asm); (case k3 => k_asm); (case k4 => k_is); (case k5 => k_is); (case k6 => k_is); k_whole; intro x' d' h' F' N' l1 l2; (try k_lt l1); (try k_lt2 l2)
  refine' code_def ?k1 ?k2 ?k3 ?k4 ?k5 ?kA ?kF ?kK ?k6 ?k7 ?k8 ?k9 ?kB ?_ ?c2 ?c3 ?c4 ?c5; (case kA => exact rfl); (case kF => exact rfl); (case kK => assumption); (case k1 => k_asm); (case k2 => k_asm); (case k3 => k_asm); (case k4 => k_asm); (case k5 => k_asm); (case k6 => k_is); (case k7 => k_is); (case k8 => ktr_room); (case k9 => (refine' kp_binds ?kx ?ke; (case kx => k_in); (case ke => exact fun _ => rfl))); (case c5 => decide); (case kB => exact locs rfl); (case c2 => exact rfl); (case c3 => exact rfl); (case c4 => exact rfl); k_whole; intro g' L' h' FG' F' N' B' X' T'; (try dsimp only); (try k_fold)
  show (let aw : PySem.Around := _; let ev : PySem.Env := _; wpAny _ aw (execs _ ev) _ _ _)
  intro aw ev
  have hKA := KA.nil
  (repeat' (first | ((with_reducible show wpAny _ _ (setAttr (Value.ref _) _ _) _ _ _); k_dflt (refine' set_fresh ?zk1 ?zk2 ?zk3 ?zk4 ?zk5 ?zk6 ?zk7 ?zk8 ?zk9 ?zk10 ?zk11 ?zk12 ?_; (case zk1 => k_asm); (case zk2 => k_asm); (case zk3 => k_asm); (case zk4 => k_inst); (case zk5 => exact rfl); (case zk6 => k_is); (case zk7 => k_is); (case zk8 => k_is); (case zk9 => k_is); (case zk10 => assumption); (case zk11 => decide +kernel); (case zk12 => (intro es9; k_upd)); k_whole; intro h' es' he' hk' F' N'; (try k_sweep))) | (k_unfold; (try dsimp only)) | (k_end; wrow_close) | walk1 | (dsimp only; walk1) | (leave1; try dsimp only)))
  refine Stop.mk ?_
  (try dsimp only)
  (try (with_reducible refine genTok ?_; intro tk))
  (with_reducible refine wpAny_execs_cons ?_)
  (try dsimp only)
  (repeat' (first | ((with_reducible show wpAny _ _ (setAttr (Value.ref _) _ _) _ _ _); k_dflt (refine' set_fresh ?zk1 ?zk2 ?zk3 ?zk4 ?zk5 ?zk6 ?zk7 ?zk8 ?zk9 ?zk10 ?zk11 ?zk12 ?_; (case zk1 => k_asm); (case zk2 => k_asm); (case zk3 => k_asm); (case zk4 => k_inst); (case zk5 => exact rfl); (case zk6 => k_is); (case zk7 => k_is); (case zk8 => k_is); (case zk9 => k_is); (case zk10 => assumption); (case zk11 => decide +kernel); (case zk12 => (intro es9; k_upd)); k_whole; intro h' es' he' hk' F' N'; (try k_sweep))) | (k_unfold; (try dsimp only)) | (k_end; wrow_close) | walk1 | (dsimp only; walk1) | (leave1; try dsimp only)))
  refine Stop.mk ?_
  rename (_ ++ [_] = _) => hE1
  (try dsimp only)
  (try (with_reducible refine genTok ?_; intro tk))
  (with_reducible refine wpAny_execs_cons ?_)
  (try dsimp only)
  (repeat' (first | ((with_reducible show wpAny _ _ (setAttr (Value.ref _) _ _) _ _ _); k_dflt (refine' set_fresh ?zk1 ?zk2 ?zk3 ?zk4 ?zk5 ?zk6 ?zk7 ?zk8 ?zk9 ?zk10 ?zk11 ?zk12 ?_; (case zk1 => k_asm); (case zk2 => k_asm); (case zk3 => k_asm); (case zk4 => k_inst); (case zk5 => exact rfl); (case zk6 => k_is); (case zk7 => k_is); (case zk8 => k_is); (case zk9 => k_is); (case zk10 => assumption); (case zk11 => decide +kernel); (case zk12 => (intro es9; k_upd)); k_whole; intro h' es' he' hk' F' N'; (try k_sweep))) | (k_unfold; (try dsimp only)) | (k_end; wrow_close) | walk1 | (dsimp only; walk1) | (leave1; try dsimp only)))
  refine Stop.mk ?_
  rename (_ ++ [_] = _) => hE2
  (try dsimp only)
  (try (with_reducible refine genTok ?_; intro tk))
  (with_reducible refine wpAny_execs_cons ?_)
  (try dsimp only)
  (repeat' (first | ((with_reducible show wpAny _ _ (setAttr (Value.ref _) _ _) _ _ _); k_dflt (refine' set_fresh ?zk1 ?zk2 ?zk3 ?zk4 ?zk5 ?zk6 ?zk7 ?zk8 ?zk9 ?zk10 ?zk11 ?zk12 ?_; (case zk1 => k_asm); (case zk2 => k_asm); (case zk3 => k_asm); (case zk4 => k_inst); (case zk5 => exact rfl); (case zk6 => k_is); (case zk7 => k_is); (case zk8 => k_is); (case zk9 => k_is); (case zk10 => assumption); (case zk11 => decide +kernel); (case zk12 => (intro es9; k_upd)); k_whole; intro h' es' he' hk' F' N'; (try k_sweep))) | (k_unfold; (try dsimp only)) | (k_end; wrow_close) | walk1 | (dsimp only; walk1) | (leave1; try dsimp only)))
  refine Stop.mk ?_
  rename (_ ++ [_] = _) => hE3
  (try dsimp only)
  (try (with_reducible refine genTok ?_; intro tk))
  (with_reducible refine wpAny_execs_cons ?_)
  (try dsimp only)
  (repeat' (first | ((with_reducible show wpAny _ _ (setAttr (Value.ref _) _ _) _ _ _); k_dflt (refine' set_fresh ?zk1 ?zk2 ?zk3 ?zk4 ?zk5 ?zk6 ?zk7 ?zk8 ?zk9 ?zk10 ?zk11 ?zk12 ?_; (case zk1 => k_asm); (case zk2 => k_asm); (case zk3 => k_asm); (case zk4 => k_inst); (case zk5 => exact rfl); (case zk6 => k_is); (case zk7 => k_is); (case zk8 => k_is); (case zk9 => k_is); (case zk10 => assumption); (case zk11 => decide +kernel); (case zk12 => (intro es9; k_upd)); k_whole; intro h' es' he' hk' F' N'; (try k_sweep))) | (k_unfold; (try dsimp only)) | (k_end; wrow_close) | walk1 | (dsimp only; walk1) | (leave1; try dsimp only)))
  refine Stop.mk ?_
  rename (_ ++ [_] = _) => hE4
  (try dsimp only)
  (try (with_reducible refine genTok ?_; intro tk))
  (with_reducible refine wpAny_execs_cons ?_)
  (try dsimp only)
  (repeat' (first | ((with_reducible show wpAny _ _ (setAttr (Value.ref _) _ _) _ _ _); k_dflt (refine' set_fresh ?zk1 ?zk2 ?zk3 ?zk4 ?zk5 ?zk6 ?zk7 ?zk8 ?zk9 ?zk10 ?zk11 ?zk12 ?_; (case zk1 => k_asm); (case zk2 => k_asm); (case zk3 => k_asm); (case zk4 => k_inst); (case zk5 => exact rfl); (case zk6 => k_is); (case zk7 => k_is); (case zk8 => k_is); (case zk9 => k_is); (case zk10 => assumption); (case zk11 => decide +kernel); (case zk12 => (intro es9; k_upd)); k_whole; intro h' es' he' hk' F' N'; (try k_sweep))) | (k_unfold; (try dsimp only)) | (k_end; wrow_close) | walk1 | (dsimp only; walk1) | (leave1; try dsimp only)))
  refine Stop.mk ?_
  rename (_ ++ [_] = _) => hE5
  (try dsimp only)
  (try (with_reducible refine genTok ?_; intro tk))
  (with_reducible refine wpAny_execs_cons ?_)
  (try dsimp only)
  (repeat' (first | ((with_reducible show wpAny _ _ (setAttr (Value.ref _) _ _) _ _ _); k_dflt (refine' set_fresh ?zk1 ?zk2 ?zk3 ?zk4 ?zk5 ?zk6 ?zk7 ?zk8 ?zk9 ?zk10 ?zk11 ?zk12 ?_; (case zk1 => k_asm); (case zk2 => k_asm); (case zk3 => k_asm); (case zk4 => k_inst); (case zk5 => exact rfl); (case zk6 => k_is); (case zk7 => k_is); (case zk8 => k_is); (case zk9 => k_is); (case zk10 => assumption); (case zk11 => decide +kernel); (case zk12 => (intro es9; k_upd)); k_whole; intro h' es' he' hk' F' N'; (try k_sweep))) | (k_unfold; (try dsimp only)) | (k_end; wrow_close) | walk1 | (dsimp only; walk1) | (leave1; try dsimp only)))
  refine Stop.mk ?_
  rename (_ ++ [_] = _) => hE6
  (rename (News g' L' _ _) => kN; have kN2 := ndrop (a := []) (b := [_]) kN; simp only [List.nil_append] at kN2; clear kN)
  (try dsimp only)
  (try (with_reducible refine genTok ?_; intro tk))
  (with_reducible refine wpAny_execs_cons ?_)
  (try dsimp only)
  (repeat' (first | ((with_reducible show wpAny _ _ (setAttr (Value.ref _) _ _) _ _ _); k_dflt (refine' set_fresh ?zk1 ?zk2 ?zk3 ?zk4 ?zk5 ?zk6 ?zk7 ?zk8 ?zk9 ?zk10 ?zk11 ?zk12 ?_; (case zk1 => k_asm); (case zk2 => k_asm); (case zk3 => k_asm); (case zk4 => k_inst); (case zk5 => exact rfl); (case zk6 => k_is); (case zk7 => k_is); (case zk8 => k_is); (case zk9 => k_is); (case zk10 => assumption); (case zk11 => decide +kernel); (case zk12 => (intro es9; k_upd)); k_whole; intro h' es' he' hk' F' N'; (try k_sweep))) | (k_unfold; (try dsimp only)) | (k_end; wrow_close) | walk1 | (dsimp only; walk1) | (leave1; try dsimp only)))
  refine Stop.mk ?_
  rename (_ ++ [_] = _) => hE7
  (rename (News g' L' _ _) => kN; have kN2 := ndrop (a := []) (b := [_]) kN; simp only [List.nil_append] at kN2; clear kN)
  (try dsimp only)
  (try (with_reducible refine genTok ?_; intro tk))
  (with_reducible refine wpAny_execs_cons ?_)
  (try dsimp only)
  (repeat' (first | ((with_reducible show wpAny _ _ (setAttr (Value.ref _) _ _) _ _ _); k_dflt (refine' set_fresh ?zk1 ?zk2 ?zk3 ?zk4 ?zk5 ?zk6 ?zk7 ?zk8 ?zk9 ?zk10 ?zk11 ?zk12 ?_; (case zk1 => k_asm); (case zk2 => k_asm); (case zk3 => k_asm); (case zk4 => k_inst); (case zk5 => exact rfl); (case zk6 => k_is); (case zk7 => k_is); (case zk8 => k_is); (case zk9 => k_is); (case zk10 => assumption); (case zk11 => decide +kernel); (case zk12 => (intro es9; k_upd)); k_whole; intro h' es' he' hk' F' N'; (try k_sweep))) | (k_unfold; (try dsimp only)) | (k_end; wrow_close) | walk1 | (dsimp only; walk1) | (leave1; try dsimp only)))
  refine Stop.mk ?_
  rename (_ ++ [_] = _) => hE8
  (rename (News g' L' _ _) => kN; have kN2 := ndrop (a := []) (b := [_]) kN; simp only [List.nil_append] at kN2; clear kN)
  (try dsimp only)
  (try (with_reducible refine genTok ?_; intro tk))
  (with_reducible refine wpAny_execs_cons ?_)
  (try dsimp only)
  (repeat' (first | ((with_reducible show wpAny _ _ (setAttr (Value.ref _) _ _) _ _ _); k_dflt (refine' set_fresh ?zk1 ?zk2 ?zk3 ?zk4 ?zk5 ?zk6 ?zk7 ?zk8 ?zk9 ?zk10 ?zk11 ?zk12 ?_; (case zk1 => k_asm); (case zk2 => k_asm); (case zk3 => k_asm); (case zk4 => k_inst); (case zk5 => exact rfl); (case zk6 => k_is); (case zk7 => k_is); (case zk8 => k_is); (case zk9 => k_is); (case zk10 => assumption); (case zk11 => decide +kernel); (case zk12 => (intro es9; k_upd)); k_whole; intro h' es' he' hk' F' N'; (try k_sweep))) | (k_unfold; (try dsimp only)) | (k_end; wrow_close) | walk1 | (dsimp only; walk1) | (leave1; try dsimp only)))
  refine Stop.mk ?_
  rename (_ ++ [_] = _) => hE9
  (rename (News g' L' _ _) => kN; have kN2 := ndrop (a := []) (b := [_]) kN; simp only [List.nil_append] at kN2; clear kN)
  (try dsimp only)
  (try (with_reducible refine genTok ?_; intro tk))
  (with_reducible refine wpAny_execs_cons ?_)
  (try dsimp only)
  (repeat' (first | ((with_reducible show wpAny _ _ (setAttr (Value.ref _) _ _) _ _ _); k_dflt (refine' set_fresh ?zk1 ?zk2 ?zk3 ?zk4 ?zk5 ?zk6 ?zk7 ?zk8 ?zk9 ?zk10 ?zk11 ?zk12 ?_; (case zk1 => k_asm); (case zk2 => k_asm); (case zk3 => k_asm); (case zk4 => k_inst); (case zk5 => exact rfl); (case zk6 => k_is); (case zk7 => k_is); (case zk8 => k_is); (case zk9 => k_is); (case zk10 => assumption); (case zk11 => decide +kernel); (case zk12 => (intro es9; k_upd)); k_whole; intro h' es' he' hk' F' N'; (try k_sweep))) | (k_unfold; (try dsimp only)) | (k_end; wrow_close) | walk1 | (dsimp only; walk1) | (leave1; try dsimp only)))
  refine Stop.mk ?_
  rename (_ ++ [_] = _) => hE10
  (try dsimp only)
  (try (with_reducible refine genTok ?_; intro tk))
  (with_reducible refine wpAny_execs_cons ?_)
  (try dsimp only)
  (repeat' (first | ((with_reducible show wpAny _ _ (setAttr (Value.ref _) _ _) _ _ _); k_dflt (refine' set_fresh ?zk1 ?zk2 ?zk3 ?zk4 ?zk5 ?zk6 ?zk7 ?zk8 ?zk9 ?zk10 ?zk11 ?zk12 ?_; (case zk1 => k_asm); (case zk2 => k_asm); (case zk3 => k_asm); (case zk4 => k_inst); (case zk5 => exact rfl); (case zk6 => k_is); (case zk7 => k_is); (case zk8 => k_is); (case zk9 => k_is); (case zk10 => assumption); (case zk11 => decide +kernel); (case zk12 => (intro es9; k_upd)); k_whole; intro h' es' he' hk' F' N'; (try k_sweep))) | (k_unfold; (try dsimp only)) | (k_end; wrow_close) | walk1 | (dsimp only; walk1) | (leave1; try dsimp only)))
  refine Stop.mk ?_
  rename (_ ++ [_] = _) => hE11
  (try dsimp only)
  (try (with_reducible refine genTok ?_; intro tk))
  (with_reducible refine wpAny_execs_cons ?_)
  (try dsimp only)
  (repeat' (first | ((with_reducible show wpAny _ _ (setAttr (Value.ref _) _ _) _ _ _); k_dflt (refine' set_fresh ?zk1 ?zk2 ?zk3 ?zk4 ?zk5 ?zk6 ?zk7 ?zk8 ?zk9 ?zk10 ?zk11 ?zk12 ?_; (case zk1 => k_asm); (case zk2 => k_asm); (case zk3 => k_asm); (case zk4 => k_inst); (case zk5 => exact rfl); (case zk6 => k_is); (case zk7 => k_is); (case zk8 => k_is); (case zk9 => k_is); (case zk10 => assumption); (case zk11 => decide +kernel); (case zk12 => (intro es9; k_upd)); k_whole; intro h' es' he' hk' F' N'; (try k_sweep))) | (k_unfold; (try dsimp only)) | (k_end; wrow_close) | walk1 | (dsimp only; walk1) | (leave1; try dsimp only)))
  refine Stop.mk ?_
  rename (_ ++ [_] = _) => hE12
  (try dsimp only)
  (try (with_reducible refine genTok ?_; intro tk))
  (with_reducible refine wpAny_execs_cons ?_)
  (try dsimp only)
  (repeat' (first | ((with_reducible show wpAny _ _ (setAttr (Value.ref _) _ _) _ _ _); k_dflt (refine' set_fresh ?zk1 ?zk2 ?zk3 ?zk4 ?zk5 ?zk6 ?zk7 ?zk8 ?zk9 ?zk10 ?zk11 ?zk12 ?_; (case zk1 => k_asm); (case zk2 => k_asm); (case zk3 => k_asm); (case zk4 => k_inst); (case zk5 => exact rfl); (case zk6 => k_is); (case zk7 => k_is); (case zk8 => k_is); (case zk9 => k_is); (case zk10 => assumption); (case zk11 => decide +kernel); (case zk12 => (intro es9; k_upd)); k_whole; intro h' es' he' hk' F' N'; (try k_sweep))) | (k_unfold; (try dsimp only)) | (k_end; wrow_close) | walk1 | (dsimp only; walk1) | (leave1; try dsimp only)))
  refine Stop.mk ?_
  rename (_ ++ [_] = _) => hE13
  (rename (News g' L' _ _) => kN; have kN2 := ndrop (a := []) (b := [_]) kN; simp only [List.nil_append] at kN2; clear kN)
  (try dsimp only)
  (try (with_reducible refine genTok ?_; intro tk))
  (with_reducible refine wpAny_execs_cons ?_)
  (try dsimp only)
  (repeat' (first | ((with_reducible show wpAny _ _ (setAttr (Value.ref _) _ _) _ _ _); k_dflt (refine' set_fresh ?zk1 ?zk2 ?zk3 ?zk4 ?zk5 ?zk6 ?zk7 ?zk8 ?zk9 ?zk10 ?zk11 ?zk12 ?_; (case zk1 => k_asm); (case zk2 => k_asm); (case zk3 => k_asm); (case zk4 => k_inst); (case zk5 => exact rfl); (case zk6 => k_is); (case zk7 => k_is); (case zk8 => k_is); (case zk9 => k_is); (case zk10 => assumption); (case zk11 => decide +kernel); (case zk12 => (intro es9; k_upd)); k_whole; intro h' es' he' hk' F' N'; (try k_sweep))) | (k_unfold; (try dsimp only)) | (k_end; wrow_close) | walk1 | (dsimp only; walk1) | (leave1; try dsimp only)))
  refine Stop.mk ?_
  rename (_ ++ [_] = _) => hE14
  (rename (News g' L' _ _) => kN; have kN2 := ndrop (a := []) (b := [_]) kN; simp only [List.nil_append] at kN2; clear kN)
  (try dsimp only)
  (try (with_reducible refine genTok ?_; intro tk))
  (with_reducible refine wpAny_execs_cons ?_)
  (try dsimp only)
  (repeat' (first | ((with_reducible show wpAny _ _ (setAttr (Value.ref _) _ _) _ _ _); k_dflt (refine' set_fresh ?zk1 ?zk2 ?zk3 ?zk4 ?zk5 ?zk6 ?zk7 ?zk8 ?zk9 ?zk10 ?zk11 ?zk12 ?_; (case zk1 => k_asm); (case zk2 => k_asm); (case zk3 => k_asm); (case zk4 => k_inst); (case zk5 => exact rfl); (case zk6 => k_is); (case zk7 => k_is); (case zk8 => k_is); (case zk9 => k_is); (case zk10 => assumption); (case zk11 => decide +kernel); (case zk12 => (intro es9; k_upd)); k_whole; intro h' es' he' hk' F' N'; (try k_sweep))) | (k_unfold; (try dsimp only)) | (k_end; wrow_close) | walk1 | (dsimp only; walk1) | (leave1; try dsimp only)))
  refine Stop.mk ?_
  rename (_ ++ [_] = _) => hE15
  (rename (News g' L' _ _) => kN; have kN2 := ndrop (a := []) (b := [_]) kN; simp only [List.nil_append] at kN2; clear kN)
  (try dsimp only)
  (try (with_reducible refine genTok ?_; intro tk))
  (with_reducible refine wpAny_execs_cons ?_)
  (try dsimp only)
  (repeat' (first | ((with_reducible show wpAny _ _ (setAttr (Value.ref _) _ _) _ _ _); k_dflt (refine' set_fresh ?zk1 ?zk2 ?zk3 ?zk4 ?zk5 ?zk6 ?zk7 ?zk8 ?zk9 ?zk10 ?zk11 ?zk12 ?_; (case zk1 => k_asm); (case zk2 => k_asm); (case zk3 => k_asm); (case zk4 => k_inst); (case zk5 => exact rfl); (case zk6 => k_is); (case zk7 => k_is); (case zk8 => k_is); (case zk9 => k_is); (case zk10 => assumption); (case zk11 => decide +kernel); (case zk12 => (intro es9; k_upd)); k_whole; intro h' es' he' hk' F' N'; (try k_sweep))) | (k_unfold; (try dsimp only)) | (k_end; wrow_close) | walk1 | (dsimp only; walk1) | (leave1; try dsimp only)))
  refine Stop.mk ?_
  rename (_ ++ [_] = _) => hE16
  (try dsimp only)
  (try (with_reducible refine genTok ?_; intro tk))
  (with_reducible refine wpAny_execs_cons ?_)
  (try dsimp only)
  (repeat' (first | ((with_reducible show wpAny _ _ (setAttr (Value.ref _) _ _) _ _ _); k_dflt (refine' set_fresh ?zk1 ?zk2 ?zk3 ?zk4 ?zk5 ?zk6 ?zk7 ?zk8 ?zk9 ?zk10 ?zk11 ?zk12 ?_; (case zk1 => k_asm); (case zk2 => k_asm); (case zk3 => k_asm); (case zk4 => k_inst); (case zk5 => exact rfl); (case zk6 => k_is); (case zk7 => k_is); (case zk8 => k_is); (case zk9 => k_is); (case zk10 => assumption); (case zk11 => decide +kernel); (case zk12 => (intro es9; k_upd)); k_whole; intro h' es' he' hk' F' N'; (try k_sweep))) | (k_unfold; (try dsimp only)) | (k_end; wrow_close) | walk1 | (dsimp only; walk1) | (leave1; try dsimp only)))
  refine Stop.mk ?_
  rename (_ ++ [_] = _) => hE17
  (try dsimp only)
  (try (with_reducible refine genTok ?_; intro tk))
  (with_reducible refine wpAny_execs_cons ?_)
  (try dsimp only)
  (repeat' (first | ((with_reducible show wpAny _ _ (setAttr (Value.ref _) _ _) _ _ _); k_dflt (refine' set_fresh ?zk1 ?zk2 ?zk3 ?zk4 ?zk5 ?zk6 ?zk7 ?zk8 ?zk9 ?zk10 ?zk11 ?zk12 ?_; (case zk1 => k_asm); (case zk2 => k_asm); (case zk3 => k_asm); (case zk4 => k_inst); (case zk5 => exact rfl); (case zk6 => k_is); (case zk7 => k_is); (case zk8 => k_is); (case zk9 => k_is); (case zk10 => assumption); (case zk11 => decide +kernel); (case zk12 => (intro es9; k_upd)); k_whole; intro h' es' he' hk' F' N'; (try k_sweep))) | (k_unfold; (try dsimp only)) | (k_end; wrow_close) | walk1 | (dsimp only; walk1) | (leave1; try dsimp only)))
  refine Stop.mk ?_
  rename (_ ++ [_] = _) => hE18
  (try dsimp only)
  (try (with_reducible refine genTok ?_; intro tk))
  (with_reducible refine wpAny_execs_cons ?_)
  (try dsimp only)
  (repeat' (first | ((with_reducible show wpAny _ _ (setAttr (Value.ref _) _ _) _ _ _); k_dflt (refine' set_fresh ?zk1 ?zk2 ?zk3 ?zk4 ?zk5 ?zk6 ?zk7 ?zk8 ?zk9 ?zk10 ?zk11 ?zk12 ?_; (case zk1 => k_asm); (case zk2 => k_asm); (case zk3 => k_asm); (case zk4 => k_inst); (case zk5 => exact rfl); (case zk6 => k_is); (case zk7 => k_is); (case zk8 => k_is); (case zk9 => k_is); (case zk10 => assumption); (case zk11 => decide +kernel); (case zk12 => (intro es9; k_upd)); k_whole; intro h' es' he' hk' F' N'; (try k_sweep))) | (k_unfold; (try dsimp only)) | (k_end; wrow_close) | walk1 | (dsimp only; walk1) | (leave1; try dsimp only)))
  refine Stop.mk ?_
  rename (_ ++ [_] = _) => hE19
  (try dsimp only)
  (try (with_reducible refine genTok ?_; intro tk))
  (with_reducible refine wpAny_execs_cons ?_)
  (try dsimp only)
  (repeat' (first | ((with_reducible show wpAny _ _ (setAttr (Value.ref _) _ _) _ _ _); k_dflt (refine' set_fresh ?zk1 ?zk2 ?zk3 ?zk4 ?zk5 ?zk6 ?zk7 ?zk8 ?zk9 ?zk10 ?zk11 ?zk12 ?_; (case zk1 => k_asm); (case zk2 => k_asm); (case zk3 => k_asm); (case zk4 => k_inst); (case zk5 => exact rfl); (case zk6 => k_is); (case zk7 => k_is); (case zk8 => k_is); (case zk9 => k_is); (case zk10 => assumption); (case zk11 => decide +kernel); (case zk12 => (intro es9; k_upd)); k_whole; intro h' es' he' hk' F' N'; (try k_sweep))) | (k_unfold; (try dsimp only)) | (k_end; wrow_close) | walk1 | (dsimp only; walk1) | (leave1; try dsimp only)))
  refine Stop.mk ?_
  rename (_ ++ [_] = _) => hE20
  (try dsimp only)
  (try (with_reducible refine genTok ?_; intro tk))
  (with_reducible refine wpAny_execs_cons ?_)
  (try dsimp only)
  (repeat' (first | ((with_reducible show wpAny _ _ (setAttr (Value.ref _) _ _) _ _ _); k_dflt (refine' set_fresh ?zk1 ?zk2 ?zk3 ?zk4 ?zk5 ?zk6 ?zk7 ?zk8 ?zk9 ?zk10 ?zk11 ?zk12 ?_; (case zk1 => k_asm); (case zk2 => k_asm); (case zk3 => k_asm); (case zk4 => k_inst); (case zk5 => exact rfl); (case zk6 => k_is); (case zk7 => k_is); (case zk8 => k_is); (case zk9 => k_is); (case zk10 => assumption); (case zk11 => decide +kernel); (case zk12 => (intro es9; k_upd)); k_whole; intro h' es' he' hk' F' N'; (try k_sweep))) | (k_unfold; (try dsimp only)) | (k_end; wrow_close) | walk1 | (dsimp only; walk1) | (leave1; try dsimp only)))
  refine Stop.mk ?_
  rename (_ ++ [_] = _) => hE21
  (try dsimp only)
  (try (with_reducible refine genTok ?_; intro tk))
  (with_reducible refine wpAny_execs_cons ?_)
  (try dsimp only)
  (repeat' (first | ((with_reducible show wpAny _ _ (setAttr (Value.ref _) _ _) _ _ _); k_dflt (refine' set_fresh ?zk1 ?zk2 ?zk3 ?zk4 ?zk5 ?zk6 ?zk7 ?zk8 ?zk9 ?zk10 ?zk11 ?zk12 ?_; (case zk1 => k_asm); (case zk2 => k_asm); (case zk3 => k_asm); (case zk4 => k_inst); (case zk5 => exact rfl); (case zk6 => k_is); (case zk7 => k_is); (case zk8 => k_is); (case zk9 => k_is); (case zk10 => assumption); (case zk11 => decide +kernel); (case zk12 => (intro es9; k_upd)); k_whole; intro h' es' he' hk' F' N'; (try k_sweep))) | (k_unfold; (try dsimp only)) | (k_end; wrow_close) | walk1 | (dsimp only; walk1) | (leave1; try dsimp only)))
  refine Stop.mk ?_
  rename (_ ++ [_] = _) => hE22
  (try dsimp only)
  (try (with_reducible refine genTok ?_; intro tk))
  (with_reducible refine wpAny_execs_cons ?_)
  (try dsimp only)
  (repeat' (first | ((with_reducible show wpAny _ _ (setAttr (Value.ref _) _ _) _ _ _); k_dflt (refine' set_fresh ?zk1 ?zk2 ?zk3 ?zk4 ?zk5 ?zk6 ?zk7 ?zk8 ?zk9 ?zk10 ?zk11 ?zk12 ?_; (case zk1 => k_asm); (case zk2 => k_asm); (case zk3 => k_asm); (case zk4 => k_inst); (case zk5 => exact rfl); (case zk6 => k_is); (case zk7 => k_is); (case zk8 => k_is); (case zk9 => k_is); (case zk10 => assumption); (case zk11 => decide +kernel); (case zk12 => (intro es9; k_upd)); k_whole; intro h' es' he' hk' F' N'; (try k_sweep))) | (k_unfold; (try dsimp only)) | (k_end; wrow_close) | walk1 | (dsimp only; walk1) | (leave1; try dsimp only)))
  refine Stop.mk ?_
  rename (_ ++ [_] = _) => hE23
  (try dsimp only)
  (try (with_reducible refine genTok ?_; intro tk))
  (with_reducible refine wpAny_execs_cons ?_)
  (try dsimp only)
  (repeat' (first | ((with_reducible show wpAny _ _ (setAttr (Value.ref _) _ _) _ _ _); k_dflt (refine' set_fresh ?zk1 ?zk2 ?zk3 ?zk4 ?zk5 ?zk6 ?zk7 ?zk8 ?zk9 ?zk10 ?zk11 ?zk12 ?_; (case zk1 => k_asm); (case zk2 => k_asm); (case zk3 => k_asm); (case zk4 => k_inst); (case zk5 => exact rfl); (case zk6 => k_is); (case zk7 => k_is); (case zk8 => k_is); (case zk9 => k_is); (case zk10 => assumption); (case zk11 => decide +kernel); (case zk12 => (intro es9; k_upd)); k_whole; intro h' es' he' hk' F' N'; (try k_sweep))) | (k_unfold; (try dsimp only)) | (k_end; wrow_close) | walk1 | (dsimp only; walk1) | (leave1; try dsimp only)))
  refine Stop.mk ?_
  rename (_ ++ [_] = _) => hE24
  (try dsimp only)
  (try (with_reducible refine genTok ?_; intro tk))
  (with_reducible refine wpAny_execs_cons ?_)
  (try dsimp only)
  (repeat' (first | ((with_reducible show wpAny _ _ (setAttr (Value.ref _) _ _) _ _ _); k_dflt (refine' set_fresh ?zk1 ?zk2 ?zk3 ?zk4 ?zk5 ?zk6 ?zk7 ?zk8 ?zk9 ?zk10 ?zk11 ?zk12 ?_; (case zk1 => k_asm); (case zk2 => k_asm); (case zk3 => k_asm); (case zk4 => k_inst); (case zk5 => exact rfl); (case zk6 => k_is); (case zk7 => k_is); (case zk8 => k_is); (case zk9 => k_is); (case zk10 => assumption); (case zk11 => decide +kernel); (case zk12 => (intro es9; k_upd)); k_whole; intro h' es' he' hk' F' N'; (try k_sweep))) | (k_unfold; (try dsimp only)) | (k_end; wrow_close) | walk1 | (dsimp only; walk1) | (leave1; try dsimp only)))
  refine Stop.mk ?_
  rename (_ ++ [_] = _) => hE25
  (try dsimp only)
  (try (with_reducible refine genTok ?_; intro tk))
  (with_reducible refine wpAny_execs_cons ?_)
  (try dsimp only)
  (repeat' (first | ((with_reducible show wpAny _ _ (setAttr (Value.ref _) _ _) _ _ _); k_dflt (refine' set_fresh ?zk1 ?zk2 ?zk3 ?zk4 ?zk5 ?zk6 ?zk7 ?zk8 ?zk9 ?zk10 ?zk11 ?zk12 ?_; (case zk1 => k_asm); (case zk2 => k_asm); (case zk3 => k_asm); (case zk4 => k_inst); (case zk5 => exact rfl); (case zk6 => k_is); (case zk7 => k_is); (case zk8 => k_is); (case zk9 => k_is); (case zk10 => assumption); (case zk11 => decide +kernel); (case zk12 => (intro es9; k_upd)); k_whole; intro h' es' he' hk' F' N'; (try k_sweep))) | (k_unfold; (try dsimp only)) | (k_end; wrow_close) | walk1 | (dsimp only; walk1) | (leave1; try dsimp only)))
  refine Stop.mk ?_
  rename (_ ++ [_] = _) => hE26
  (try dsimp only)
  (try (with_reducible refine genTok ?_; intro tk))
  (with_reducible refine wpAny_execs_cons ?_)
  (try dsimp only)
  (repeat' (first | ((with_reducible show wpAny _ _ (setAttr (Value.ref _) _ _) _ _ _); k_dflt (refine' set_fresh ?zk1 ?zk2 ?zk3 ?zk4 ?zk5 ?zk6 ?zk7 ?zk8 ?zk9 ?zk10 ?zk11 ?zk12 ?_; (case zk1 => k_asm); (case zk2 => k_asm); (case zk3 => k_asm); (case zk4 => k_inst); (case zk5 => exact rfl); (case zk6 => k_is); (case zk7 => k_is); (case zk8 => k_is); (case zk9 => k_is); (case zk10 => assumption); (case zk11 => decide +kernel); (case zk12 => (intro es9; k_upd)); k_whole; intro h' es' he' hk' F' N'; (try k_sweep))) | (k_unfold; (try dsimp only)) | (k_end; wrow_close) | walk1 | (dsimp only; walk1) | (leave1; try dsimp only)))
  refine Stop.mk ?_
  rename (_ ++ [_] = _) => hE27
  (rename (News g' L' _ _) => kN; have kN2 := ndrop (a := []) (b := [_]) kN; simp only [List.nil_append] at kN2; clear kN)
  (try dsimp only)
  (try (with_reducible refine genTok ?_; intro tk))
  (with_reducible refine wpAny_execs_cons ?_)
  (try dsimp only)
  (repeat' (first | ((with_reducible show wpAny _ _ (setAttr (Value.ref _) _ _) _ _ _); k_dflt (refine' set_fresh ?zk1 ?zk2 ?zk3 ?zk4 ?zk5 ?zk6 ?zk7 ?zk8 ?zk9 ?zk10 ?zk11 ?zk12 ?_; (case zk1 => k_asm); (case zk2 => k_asm); (case zk3 => k_asm); (case zk4 => k_inst); (case zk5 => exact rfl); (case zk6 => k_is); (case zk7 => k_is); (case zk8 => k_is); (case zk9 => k_is); (case zk10 => assumption); (case zk11 => decide +kernel); (case zk12 => (intro es9; k_upd)); k_whole; intro h' es' he' hk' F' N'; (try k_sweep))) | (k_unfold; (try dsimp only)) | (k_end; wrow_close) | walk1 | (dsimp only; walk1) | (leave1; try dsimp only)))
  rename (_ ++ [_] = _) => hE28
  rename (News g' L' _ _) => hZ
  rename (News h₀ L _ _) => hN
  have hN3 := ndrop (a := []) (b := [_]) hN
  simp only [List.cons_append, List.nil_append] at hN3
  clear hN hZ
  repeat (rename (_ ∧ _) => hc; obtain ⟨hc1, hc2⟩ := hc)
  have hlt1 := allLt_of l1
  have hlt2 := allLt_trans hlt1 l2
  refine' hret _ _ _ _ _ _ _ _ _ _ _ rfl ?wd ?_ ?_ ?_ ?_ ?_ (by k_asm) hN3
  case wd =>
    rw [ents hE1 hE2 hE3 hE4 hE5 hE6 hE7 hE8 hE9 hE10 hE11 hE12 hE13 hE14 hE15 hE16 hE17 hE18 hE19 hE20 hE21 hE22 hE23 hE24 hE25 hE26 hE27 hE28]
    exact WD.of
  all_goals repeat (first | assumption | refine ⟨by assumption, ?_⟩)
end Mine
end
section
namespace Mine
theorem startC13b : True := by
  w_top off
  trivial
end Mine
open PySem PySem.W PyProof.Rows PySem.Calls PyProof.V PySem.Spec
namespace Mine
section
variable {prog : Program} {w : World} {A : Around} {E : Value → Shared → Prop} {s : Shared} {K : Frag} {x C dx L : Addr} {h₀ : Heap} {m : Str → Option Value} {news news' : List (Addr × Obj)} {ox : Obj} {T : Nat → Tok} {U : Nat → Value} {ov rv iv dv sv v : Value} {Q : Unit → Shared → Prop}
theorem setW_row (F : Fr h₀ L s.heap m) (X₀ : K.In h₀) (N : News h₀ L s.heap news) (I : InstAt s.heap x ox C (some (dictOf (wF w T U ov rv iv dv sv) 28))) (hd : ox.dict = some dx)
    (hs : findIn K (.ref C) "__setattr__" = some (some (.builtin "object.__setattr__"))) (hp : plainOver K C = true) (ht : takerIn K C (Str.ofString "row") = some none) (hh : hasDictIn K C = true)
    (Up : Upd dx (dictOf (wF w T U ov rv iv dv sv) 28) (dictOf (wF w T U ov v iv dv sv) 28) news news')
    (h : ∀ h', Fr h₀ L h' m → News h₀ L h' news' → Q () { s with heap := h', toks := s.toks + 2 }) :
    wpAny (model prog w) A (setAttr (.ref x) (Str.ofString "row") v) Q E s :=
  set_dict F X₀ N I hd hs hp ht hh rfl (by rfl) Up (Nat.le_of_ble_eq_true rfl) h
theorem setW_inputs (F : Fr h₀ L s.heap m) (X₀ : K.In h₀) (N : News h₀ L s.heap news) (I : InstAt s.heap x ox C (some (dictOf (wF w T U ov rv iv dv sv) 28))) (hd : ox.dict = some dx)
    (hs : findIn K (.ref C) "__setattr__" = some (some (.builtin "object.__setattr__"))) (hp : plainOver K C = true) (ht : takerIn K C (Str.ofString "inputs") = some none) (hh : hasDictIn K C = true)
    (Up : Upd dx (dictOf (wF w T U ov rv iv dv sv) 28) (dictOf (wF w T U ov rv v dv sv) 28) news news')
    (h : ∀ h', Fr h₀ L h' m → News h₀ L h' news' → Q () { s with heap := h', toks := s.toks + 2 }) :
    wpAny (model prog w) A (setAttr (.ref x) (Str.ofString "inputs") v) Q E s :=
  set_dict F X₀ N I hd hs hp ht hh rfl (by rfl) Up (Nat.le_of_ble_eq_true rfl) h
theorem setW_data (F : Fr h₀ L s.heap m) (X₀ : K.In h₀) (N : News h₀ L s.heap news) (I : InstAt s.heap x ox C (some (dictOf (wF w T U ov rv iv dv sv) 28))) (hd : ox.dict = some dx)
    (hs : findIn K (.ref C) "__setattr__" = some (some (.builtin "object.__setattr__"))) (hp : plainOver K C = true) (ht : takerIn K C (Str.ofString "data") = some none) (hh : hasDictIn K C = true)
    (Up : Upd dx (dictOf (wF w T U ov rv iv dv sv) 28) (dictOf (wF w T U ov rv iv v sv) 28) news news')
    (h : ∀ h', Fr h₀ L h' m → News h₀ L h' news' → Q () { s with heap := h', toks := s.toks + 2 }) :
    wpAny (model prog w) A (setAttr (.ref x) (Str.ofString "data") v) Q E s :=
  set_dict F X₀ N I hd hs hp ht hh rfl (by rfl) Up (Nat.le_of_ble_eq_true rfl) h
theorem setW_spot (F : Fr h₀ L s.heap m) (X₀ : K.In h₀) (N : News h₀ L s.heap news) (I : InstAt s.heap x ox C (some (dictOf (wF w T U ov rv iv dv sv) 28))) (hd : ox.dict = some dx)
    (hs : findIn K (.ref C) "__setattr__" = some (some (.builtin "object.__setattr__"))) (hp : plainOver K C = true) (ht : takerIn K C (Str.ofString "spot") = some none) (hh : hasDictIn K C = true)
    (Up : Upd dx (dictOf (wF w T U ov rv iv dv sv) 28) (dictOf (wF w T U ov rv iv dv v) 28) news news')
    (h : ∀ h', Fr h₀ L h' m → News h₀ L h' news' → Q () { s with heap := h', toks := s.toks + 2 }) :
    wpAny (model prog w) A (setAttr (.ref x) (Str.ofString "spot") v) Q E s :=
  set_dict F X₀ N I hd hs hp ht hh rfl (by rfl) Up (Nat.le_of_ble_eq_true rfl) h
end
end Mine
end
section
namespace Mine
theorem startC15 : True := by
  w_top off
  trivial
end Mine
open PySem PySem.W PyProof.Rows PySem.Calls PyProof.V PySem.Spec
namespace Mine

inductive PrV : Str → Value → Prop
  | no : PrV (Str.ofString "") .none
  | text (y t) : y.length ≤ 4 → PyData.strOk y = true → PrV y (.str y t)
noncomputable def pRow (r y : Str) (b : Bool) : Str := r ++ y ++ (if b = true then Str.ofString "? " else Str.ofString "")
noncomputable def wrote (z : Str) (os : List Str) : List Str := if (z == Str.ofString "") = true then os else os ++ [z]
theorem wrote_t {z : Str} {os : List Str} (h : (z == Str.ofString "") = true) : wrote z os = os := if_pos h
theorem wrote_f {z : Str} {os : List Str} (h : (z == Str.ofString "") = false) : wrote z os = os ++ [z] := if_neg (by rw [h]; exact Bool.false_ne_true)
theorem wrote_size {z : Str} {os : List Str} {ovs : List Value} (h : StrsAre ovs (wrote z os)) : ovs.toArray.size ≤ os.length + 1 := by
  rw [List.size_toArray, h.length]; unfold wrote; split <;> simp
theorem wrote_room {n : Nat} (h : n ≤ 100) : n + 1 ≤ 101 := Nat.succ_le_succ h
theorem neT {a b : Str} (h : (a != b) = true) : (a == b) = false := by rw [bne, Bool.not_eq_true'] at h; exact h
theorem neF {a b : Str} (h : (a != b) = false) : a = b := by rw [bne, Bool.not_eq_false'] at h; exact beq_iff_eq.mp h
noncomputable abbrev wChunk (oa : Addr) (ovs : List Value) (on : Nat) (x dx : Addr) (es : List DictEntry) (news : List (Addr × Obj)) : List (Addr × Obj) := (oa, W.listOf ovs.toArray on) :: (x, instObj 166 dx) :: (dx, dictOf es 28) :: news
local macro_rules | `(tactic| k_all) => `(tactic| assumption)
set_option maxHeartbeats 4000000 in
theorem write_prompt_c (w : World) (y : Str) (pv : Value) (hpv : PrV y pv) (b : Bool) (x dx oa : Addr) (ovs : List Value) (os : List Str) (on : Nat) (hos : StrsAre ovs os) (hol : os.length ≤ 100) (r : Str) (t : Tok) (hrl : r.length ≤ 100) (iv dv sv : Value) (es : List DictEntry) (hes : WD w (.ref oa) (.str r t) iv dv sv es) (news : List (Addr × Obj))
    (hd1 : @Ne Nat oa x) (hd2 : @Ne Nat oa dx) (hd3 : @Ne Nat x dx) (hd4 : ∀ p ∈ news, p.1 ≠ oa) (hd5 : ∀ p ∈ news, p.1 ≠ x) (hd6 : ∀ p ∈ news, p.1 ≠ dx) :
    Ctr w 120 3 128 [.ref x, pv, .bool b] (wChunk oa ovs on x dx es news) (fun base L h₀ m s Q E => ∀ (h2 : Heap) (tk2 : Nat) (v : Value) (ovs2 : List Value) (on2 : Nat) (es2 : List DictEntry) (t2 : Tok), v = .none → StrsAre ovs2 (wrote (pRow r y b) os) → WD w (.ref oa) (.str (Str.ofString "") t2) iv dv sv es2 →
      Fr h₀ L h2 m → News h₀ L h2 (wChunk oa ovs2 on2 x dx es2 news) → Q v { s with heap := h2, toks := tk2 }) := by
  obtain ⟨T0, U0, rfl⟩ := hes.ex
  unfold Ctr
  k_fill
  intro p loose mean mg mb dp un gd cn cs a ccd cl outer A₀ base h₀ L m s Q E B F X N T hk hdp hu hret
  refine wpAny_call ?_
  k_dflt ktr_enter
  refine (let aw : PySem.Around := _; let ev : PySem.Env := _; let qe : PySem.Flow → PySem.Shared → Prop := _; let ee : PySem.Value → PySem.Shared → Prop := _; (?_ : PySem.wpAny _ aw (PySem.execs _ ev) qe ee _))
  dsimp only [wChunk] at *
  have hos2 : ovs.toArray.size ≤ 100 := by rw [List.size_toArray, hos.length]; exact hol
  cases hpv <;> cases b
  all_goals
    (repeat' (first | ((fail_if_success (fail_if_success (with_reducible show wpAny _ _ (call (Value.ref _) (_ :: _)) _ _ _))); (k_here; k_dflt (refine wpAny_call ?_; (refine' code_def ?zqk1 ?zqk2 ?zqk3 ?zqk4 ?zqk5 ?zqkA ?zqkF ?zqkK ?zqk6 ?zqk7 ?zqk8 ?zqk9 ?zqkB ?_ ?zqc2 ?zqc3 ?zqc4 ?zqc5; (case zqkA => exact rfl); (case zqkF => exact rfl); (case zqkK => first | exact rfl | assumption); (case zqk1 => k_asm); (case zqk2 => k_asm); (case zqk3 => k_asm); (case zqk4 => k_asm); (case zqk5 => k_asm); (case zqk6 => k_is); (case zqk7 => k_is); (case zqk8 => ktr_room); (case zqk9 => exact BindsTo.of_eq rfl); (case zqc5 => decide); (case zqkB => exact locs rfl); (case zqc2 => exact rfl); (case zqc3 => exact rfl); (case zqc4 => exact rfl); k_whole; intro g' L' h' FG' F' N' B' X' T'; (try dsimp only); (try refine (let aw : PySem.Around := _; let ev : PySem.Env := _; let qe : PySem.Flow → PySem.Shared → Prop := _; let ee : PySem.Value → PySem.Shared → Prop := _; (?_ : PySem.wpAny _ aw (PySem.execs _ ev) qe ee _))))))) | ((with_reducible show wpAny _ _ (setAttr (Value.ref _) (Str.ofString "row") _) _ _ _); k_here; k_dflt (refine' setW_row ?zk1 ?zk2 ?zk3 ?zk4 ?zk5 ?zk6 ?zk7 ?zk8 ?zk9 ?zk12 ?_; (case zk1 => k_asm); (case zk2 => k_asm); (case zk3 => k_asm); (case zk4 => k_inst); (case zk5 => exact rfl); (case zk6 => k_is); (case zk7 => k_is); (case zk8 => k_is); (case zk9 => k_is); (case zk12 => k_upd); k_whole; intro h' F' N'; (try k_sweep))) | (k_unfold; (try dsimp only)) | (k_end; wrow_close) | walk1 | (dsimp only; first | walk1 | (fail_if_success (fail_if_success (with_reducible show wpAny _ _ (call (Value.ref _) (_ :: _)) _ _ _)))) | (leave1; walk_say "STEP leave1"; try dsimp only) | fail "no step"))
    · rename (_ != _) = true => hb
      rename (News h₀ _ _ _) => hN
      rw [List.push_toArray] at hN
      refine' hret _ _ _ (ovs ++ [_]) _ _ _ rfl ?so ?wd (by k_asm) hN
      case wd => first | exact WD.ent | exact WD.of
      case so => exact Eq.mp (congrArg (StrsAre _) (wrote_f (os := os) (neT hb)).symm) (hos.append' (.cons _ _ .nil))
    · rename (_ != _) = false => hb
      rename (News h₀ _ _ _) => hN
      rw [neF hb] at hN
      refine' hret _ _ _ ovs _ _ _ rfl ?so ?wd (by k_asm) hN
      case wd => first | exact WD.ent | exact WD.of
      case so => exact Eq.mp (congrArg (StrsAre _) (wrote_t (os := os) (beq_iff_eq.mpr (neF hb))).symm) hos
end Mine
end
section
namespace Mine
theorem startC16 : True := by
  w_top off
  trivial
end Mine
open PySem PySem.W PyProof.Rows PySem.Calls PyProof.V PySem.Spec
namespace Mine

theorem pop_k (v : Value) (vs : List Value) : seqIndex? 0 (v :: vs).toArray.size = some 0 := by
  simp [seqIndex?]
local macro_rules | `(tactic| k_all) => `(tactic| assumption)
set_option maxHeartbeats 4000000 in
theorem ask_line_c (w : World) (y : Str) (pv : Value) (hpv : PrV y pv) (x dx oa ia : Addr) (ovs : List Value) (os : List Str) (on : Nat) (hos : StrsAre ovs os) (hol : os.length ≤ 100) (r : Str) (t : Tok) (hrl : r.length ≤ 100) (dv sv : Value) (es : List DictEntry) (hes : WD w (.ref oa) (.str r t) (.ref ia) dv sv es)
    (x0 : Str) (t0 : Tok) (hx0 : x0.length ≤ 100) (ivs : List Value) (xs : List Str) (hiv : StrsAre ivs xs) (hil : xs.length ≤ 100) (inn : Nat) (news : List (Addr × Obj))
    (hd1 : @Ne Nat oa x) (hd2 : @Ne Nat oa dx) (hd3 : @Ne Nat x dx) (hd7 : @Ne Nat ia oa) (hd8 : @Ne Nat ia x) (hd9 : @Ne Nat ia dx) (hd4 : ∀ p ∈ news, p.1 ≠ oa) (hd5 : ∀ p ∈ news, p.1 ≠ x) (hd6 : ∀ p ∈ news, p.1 ≠ dx) (hd10 : ∀ p ∈ news, p.1 ≠ ia) :
    Ctr w 134 5 256 [.ref x, pv] (wChunk oa ovs on x dx es ((ia, W.listOf (.str x0 t0 :: ivs).toArray inn) :: news)) (fun base L h₀ m s Q E => ∀ (h2 : Heap) (tk2 : Nat) (v : Value) (ovs2 : List Value) (on2 : Nat) (es2 : List DictEntry) (t2 : Tok) (inn2 : Nat), v = .str x0 t0 → StrsAre ovs2 (wrote (pRow r y false) os) → WD w (.ref oa) (.str (Str.ofString "") t2) (.ref ia) dv sv es2 →
      Fr h₀ L h2 m → News h₀ L h2 (wChunk oa ovs2 on2 x dx es2 ((ia, W.listOf ivs.toArray inn2) :: news)) → Q v { s with heap := h2, toks := tk2 }) := by
  obtain ⟨T0, U0, rfl⟩ := hes.ex
  dsimp only [wChunk] at *
  unfold Ctr
  k_fill
  intro p loose mean mg mb dp un gd cn cs a ccd cl outer A₀ base h₀ L m s Q E B F X N T hk hdp hu hret
  refine wpAny_call ?_
  k_dflt ktr_enter
  refine (let aw : PySem.Around := _; let ev : PySem.Env := _; let qe : PySem.Flow → PySem.Shared → Prop := _; let ee : PySem.Value → PySem.Shared → Prop := _; (?_ : PySem.wpAny _ aw (PySem.execs _ ev) qe ee _))
  have hos2 : ovs.toArray.size ≤ 100 := by rw [List.size_toArray, hos.length]; exact hol
  have hvl : ivs.length ≤ 100 := by rw [hiv.length]; exact hil
  have hne : ((List.length (x0 :: xs) : Nat) : Int) ≠ 0 := q4
  (repeat' (first | ((fail_if_success (fail_if_success (with_reducible show wpAny _ _ (call (Value.ref _) (_ :: _)) _ _ _))); (k_here; k_dflt (first | (refine' write_prompt_c _ _ _ ?zqhpv _ _ _ _ _ _ _ ?zqhos ?zqhol _ _ ?zqhrl _ _ _ _ ?zqhes _ ?zqd1 ?zqd2 ?zqd3 ?zqd4 ?zqd5 ?zqd6 _ _ _ _ _ _ _ _ _ _ _ _ _ _ _ _ _ _ _ _ _ _ ?zqk1 ?zqk2 ?zqk3 ?zqk4 ?zqk5 ?zqkK ?zqkd ?zqku ?_; (case zqk1 => k_asm); (case zqk2 => k_asm); (case zqk3 => k_asm); (case zqk4 => k_asm); (case zqk5 => k_asm); (case zqkK => first | exact rfl | assumption); (case zqhes => exact WD.ent); (case zqhpv => assumption); (case zqhos => assumption); (case zqhol => first | assumption | omega); (case zqhrl => first | assumption | omega); (case zqd1 => first | assumption | omega); (case zqd2 => first | assumption | omega); (case zqd3 => first | assumption | omega); (case zqd4 => k_all); (case zqd5 => k_all); (case zqd6 => k_all); (case zqkd => ktr_room); (case zqku => ktr_units); (intro h2 tk2 v2 ovs2 on2 es2 t2 hv2 hos2 hes2 F2 N2; subst hv2; obtain ⟨T2, U2, hes3⟩ := hes2.ex; subst hes3; (dsimp only [wChunk] at N2); (try dsimp only); (try refine (let aw : PySem.Around := _; let ev : PySem.Env := _; let qe : PySem.Flow → PySem.Shared → Prop := _; let ee : PySem.Value → PySem.Shared → Prop := _; (?_ : PySem.wpAny _ aw (PySem.execs _ ev) qe ee _))))) | (refine wpAny_call ?_; (refine' code_def ?zqk1 ?zqk2 ?zqk3 ?zqk4 ?zqk5 ?zqkA ?zqkF ?zqkK ?zqk6 ?zqk7 ?zqk8 ?zqk9 ?zqkB ?_ ?zqc2 ?zqc3 ?zqc4 ?zqc5; (case zqkA => exact rfl); (case zqkF => exact rfl); (case zqkK => first | exact rfl | assumption); (case zqk1 => k_asm); (case zqk2 => k_asm); (case zqk3 => k_asm); (case zqk4 => k_asm); (case zqk5 => k_asm); (case zqk6 => k_is); (case zqk7 => k_is); (case zqk8 => ktr_room); (case zqk9 => exact BindsTo.of_eq rfl); (case zqc5 => decide); (case zqkB => exact locs rfl); (case zqc2 => exact rfl); (case zqc3 => exact rfl); (case zqc4 => exact rfl); k_whole; intro g' L' h' FG' F' N' B' X' T'; (try dsimp only); (try refine (let aw : PySem.Around := _; let ev : PySem.Env := _; let qe : PySem.Flow → PySem.Shared → Prop := _; let ee : PySem.Value → PySem.Shared → Prop := _; (?_ : PySem.wpAny _ aw (PySem.execs _ ev) qe ee _)))))))) | ((fail_if_success (fail_if_success (with_reducible show wpAny _ _ (call (Value.builtin "len") (_ :: _)) _ _ _))); (k_here; (with_reducible show wpAny _ _ (call (Value.builtin "len") [Value.ref _]) _ _ _); k_dflt (refine' len_strsA (News.isList ?zqa ?zqa2) ?zqb ?zqc ?_; (case zqa => k_asm); (case zqa2 => first | k_mem); (case zqb => exact StrsAre.cons _ _ (by assumption)); (case zqc => simp; omega); k_whole))) | ((fail_if_success (fail_if_success (with_reducible show wpAny _ _ (call (Value.builtin "list.pop") (_ :: _)) _ _ _))); (k_here; (with_reducible show wpAny _ _ (call (Value.builtin _) [Value.ref _, Value.int _ _]) _ _ _); k_dflt (refine' kl_popAt ?zqF ?zqN ?zqf ?zqk ?zqe ?zqU ?zqz ?_; (case zqF => k_asm); (case zqN => k_asm); (case zqU => k_upd); (case zqf => rfl); (case zqk => exact pop_k _ _); (case zqe => rfl); (case zqz => (rw [sizeLine_eq]; simp; omega))); kl_rest)) | (k_unfold; (try dsimp only)) | (k_end; wrow_close) | walk1 | (dsimp only; first | walk1 | (fail_if_success (fail_if_success (with_reducible show wpAny _ _ (call (Value.builtin "len") (_ :: _)) _ _ _))) | (fail_if_success (fail_if_success (with_reducible show wpAny _ _ (call (Value.builtin "list.pop") (_ :: _)) _ _ _))) | (fail_if_success (fail_if_success (with_reducible show wpAny _ _ (call (Value.ref _) (_ :: _)) _ _ _)))) | (leave1; walk_say "STEP leave1"; try dsimp only) | fail "no step"))
  all_goals (first | exact absurd (by assumption) hne | skip)

  rename (News h₀ _ _ _) => hN
  refine' hret _ _ _ _ _ _ _ _ rfl ?so ?wd (by k_asm) hN
  case wd => exact WD.ent
  case so => assumption
end Mine
end
section
namespace Mine
theorem startC17 : True := by
  w_top off
  trivial
end Mine
open PySem PySem.W PyProof.Rows PySem.Calls PyProof.V PySem.Spec
namespace Mine
local macro_rules | `(tactic| walk_at "execs cons") => `(tactic| (k_here; (fail_if_success (fail_if_success k_gentoks)); with_reducible refine genTok ?_; intro tk))
local macro_rules | `(tactic| walk_at "execs nil") => `(tactic| (k_here; (fail_if_success (fail_if_success k_gentoks)); with_reducible refine genTok ?_; intro tk))

noncomputable def Ctr2 (w : World) (f : Addr) (deep cu : Nat) (vs : List Value) (news : List (Addr × Obj)) (P : List Env → Heap → Addr → Heap → (Str → Option Value) → Shared → (Value → Shared → Prop) → (Value → Shared → Prop) → Prop) : Prop :=
  ∀ (p : Program) (loose : List Str) (mean : ExcName → Option Value) (mg mb : Str → Option Value) (dp un : Nat) (gd : Option (List Code)) (cn : Str) (cs : Scope) (a : Addr) (ccd : Value) (cl : List (Str × Addr)) (outer : List Env) (A₀ : Around) (base h₀ : Heap) (L : Addr) (m : Str → Option Value) (s : Shared) (Q E : Value → Shared → Prop),
    Below A₀ base outer h₀ → Fr h₀ L s.heap m → (hd.heap_1 w.params).In h₀ → News h₀ L s.heap news → Top p loose mean mg mb h₀ → cs.kind = .function →
    dp + deep < recursionLimit → un + cu < cLine →
    P (envX cn cs L a ccd cl :: outer) base L h₀ m s Q E →
    wpAny (model PySem.Challenge.rw_pc0006_01.row.prog w) (ktrTop dp un gd cn cs L a ccd cl outer) (call (.ref f) vs) Q E s
noncomputable abbrev againT : Str := Str.ofString "?Redo from start"
noncomputable def askF (ks : List Str) (y : Str) (b : Bool) : Str → List Str → List Str → Option (List PyData) × List Str × List Str
  | _, os, [] => (none, os, [])
  | r, os, x :: xs => match fitF ks x with
    | some ds => (some ds, wrote (pRow r y b) os, xs)
    | none => askF ks y b (Str.ofString "") (wrote (pRow r y b) os ++ [againT]) xs
theorem askF_some {ks : List Str} {y : Str} {b : Bool} {r : Str} {os xs : List Str} {x : Str} {ds : List PyData} (h : fitF ks x = some ds) : askF ks y b r os (x :: xs) = (some ds, wrote (pRow r y b) os, xs) := by rw [askF, h]
theorem askF_none {ks : List Str} {y : Str} {b : Bool} {r : Str} {os xs : List Str} {x : Str} (h : fitF ks x = none) : askF ks y b r os (x :: xs) = askF ks y b (Str.ofString "") (wrote (pRow r y b) os ++ [againT]) xs := by rw [askF, h]
theorem wrote_len (z : Str) (os : List Str) : (wrote z os).length ≤ os.length + 1 := by
  unfold wrote; split <;> simp
theorem again_eq : Str.ofString "" ++ Str.ofString "?Redo from start" = againT := by decide +kernel
structure AvSt where
  r : Str
  t : Tok
  os : List Str
  ovs : List Value
  on : Nat
  xs : List Str
  ivs : List Value
  inn : Nat
  es : List DictEntry
  fo : Option (Addr × List Value × Nat × List PyData)
noncomputable def AvSt.fv (c : AvSt) : Value := match c.fo with
  | none => .none
  | some q => .ref q.1
noncomputable def AvSt.led (c : AvSt) (oa x dx ia : Addr) (tl9 : List (Addr × Obj)) : List (Addr × Obj) := match c.fo with
  | none => wChunk oa c.ovs c.on x dx c.es ((ia, W.listOf c.ivs.toArray c.inn) :: tl9)
  | some q => (q.1, W.listOf q.2.1.toArray q.2.2.1) :: wChunk oa c.ovs c.on x dx c.es ((ia, W.listOf c.ivs.toArray c.inn) :: tl9)
noncomputable def AvSt.mu (c : AvSt) : Nat := match c.fo with
  | none => c.xs.length + 1
  | some _ => 0
noncomputable def AvInv (w : World) (oa x dx ia : Addr) (dv sv : Value) (tl9 : List (Addr × Obj)) (ks : List Str) (y : Str) (b : Bool) (R0 : Option (List PyData) × List Str × List Str) (c : AvSt) : Prop :=
  WD w (.ref oa) (.str c.r c.t) (.ref ia) dv sv c.es ∧ StrsAre c.ovs c.os ∧ StrsAre c.ivs c.xs ∧ c.r.length ≤ 50 ∧ PyData.strOk c.r = true ∧ c.os.length + 2 * c.xs.length ≤ 30 ∧ (∀ z ∈ c.xs, z.length ≤ 20 ∧ PyData.strOk z = true) ∧
  (match c.fo with
  | none => R0 = askF ks y b c.r c.os c.xs
  | some q => CarriedAll q.2.1 q.2.2.2 ∧ c.r = Str.ofString "" ∧ (∀ p ∈ wChunk oa c.ovs c.on x dx c.es ((ia, W.listOf c.ivs.toArray c.inn) :: tl9), p.1 < q.1) ∧ R0 = (some q.2.2.2, c.os, c.xs))
theorem q10 {n : Nat} (h : n ≤ 6) : 0 + 2 * n ≤ 20 := by lia
theorem q11 {a b N : Nat} (h : a + 2 * (b + 1) ≤ N) (e : Nat.ble N 16777215 = true) : b ≤ 16777215 := by
  have := Nat.le_of_ble_eq_true e
  lia

local macro_rules | `(tactic| k_all) => `(tactic| assumption)
local macro_rules | `(tactic| walk_at "WlPost") => `(tactic| dsimp only [WlPost])
local macro_rules | `(tactic| walk_at "exec While Compare") => `(tactic| (refine Stop.out ?_))
set_option maxHeartbeats 4000000 in
theorem ask_values_c (w : World) (y : Str) (pv : Value) (hpv : PrV y pv) (b : Bool) (x dx oa ia ka : Addr) (ovs : List Value) (os : List Str) (on : Nat) (hos : StrsAre ovs os) (r : Str) (t : Tok) (hrl : r.length ≤ 50) (hrok : PyData.strOk r = true) (dv sv : Value) (es : List DictEntry) (hes : WD w (.ref oa) (.str r t) (.ref ia) dv sv es)
    (ivs : List Value) (xs : List Str) (hiv : StrsAre ivs xs) (hol : os.length + 2 * xs.length ≤ 30) (hxs : ∀ z ∈ xs, z.length ≤ 20 ∧ PyData.strOk z = true) (inn : Nat) (kvs : List Value) (ks : List Str) (hks : StrsAre kvs ks) (hkl : ks.length ≤ 3) (nk : Nat) (news : List (Addr × Obj))
    (hd1 : @Ne Nat oa x) (hd2 : @Ne Nat oa dx) (hd3 : @Ne Nat x dx) (hd7 : @Ne Nat ia oa) (hd8 : @Ne Nat ia x) (hd9 : @Ne Nat ia dx) (hd11 : @Ne Nat ka oa) (hd12 : @Ne Nat ka x) (hd13 : @Ne Nat ka dx) (hd14 : @Ne Nat ka ia)
    (hd4 : ∀ p ∈ news, p.1 ≠ oa) (hd5 : ∀ p ∈ news, p.1 ≠ x) (hd6 : ∀ p ∈ news, p.1 ≠ dx) (hd10 : ∀ p ∈ news, p.1 ≠ ia) :
    Ctr2 w 127 8 512 [.ref x, pv, .bool b, .ref ka, .ref 176] (wChunk oa ovs on x dx es ((ia, W.listOf ivs.toArray inn) :: (ka, W.listOf kvs.toArray nk) :: news)) (fun envs base L h₀ m s Q E =>
      (∀ ds os2 xs2, askF ks y b r os xs = (some ds, os2, xs2) → ∀ (h2 : Heap) (tk2 : Nat) (l : Addr) (vs2 : List Value) (n2 : Nat) (ovs2 : List Value) (on2 : Nat) (es2 : List DictEntry) (t2 : Tok) (ivs2 : List Value) (inn2 : Nat), CarriedAll vs2 ds → StrsAre ovs2 os2 → StrsAre ivs2 xs2 → WD w (.ref oa) (.str (Str.ofString "") t2) (.ref ia) dv sv es2 →
        (∀ p ∈ wChunk oa ovs2 on2 x dx es2 ((ia, W.listOf ivs2.toArray inn2) :: (ka, W.listOf kvs.toArray nk) :: news), p.1 < l) → Fr h₀ L h2 m → News h₀ L h2 ((l, W.listOf vs2.toArray n2) :: wChunk oa ovs2 on2 x dx es2 ((ia, W.listOf ivs2.toArray inn2) :: (ka, W.listOf kvs.toArray nk) :: news)) → Q (.ref l) { s with heap := h2, toks := tk2 }) ∧
      (∀ os2, askF ks y b r os xs = (none, os2, []) → ∀ (h2 g2 : Heap) (tk2 : Nat) (e tt : Addr) (ovs2 : List Value) (on2 : Nat) (es2 : List DictEntry) (r2 : Str) (t2 : Tok) (inn2 : Nat), StrsAre ovs2 os2 → r2.length ≤ 50 → PyData.strOk r2 = true → WD w (.ref oa) (.str r2 t2) (.ref ia) dv sv es2 →
        Fr h₀ L g2 m → g2.UpToSlots h2 → RaisedS base g2 envs e (.ref 61) tt [] (wChunk oa ovs2 on2 x dx es2 ((ia, W.listOf #[] inn2) :: (ka, W.listOf kvs.toArray nk) :: news)) h2 → E (.ref e) { s with heap := h2, toks := tk2 })) := by
  obtain ⟨T0, U0, rfl⟩ := hes.ex
  dsimp only [wChunk] at *
  unfold Ctr2
  k_fill
  intro p loose mean mg mb dp un gd cn cs a ccd cl outer A₀ base h₀ L m s Q E B F X N T hk hdp hu hret
  refine wpAny_call ?_
  k_dflt ktr_enter
  refine (let aw : PySem.Around := _; let ev : PySem.Env := _; let qe : PySem.Flow → PySem.Shared → Prop := _; let ee : PySem.Value → PySem.Shared → Prop := _; (?_ : PySem.wpAny _ aw (PySem.execs _ ev) qe ee _))
  (repeat' (first | ((fail_if_success (fail_if_success (with_reducible show wpAny _ _ (leaving _ (Value.ref _)) _ _ _))); (k_here; (refine' leave_raiseS ?zqk1 ?zqk0 ?zqk2 ?zqk3 ?_; (case zqk0 => first | assumption | exact Heap.MadeExc.of (by assumption)); (case zqk2 => assumption); (case zqk1 => assumption); (case zqk3 => k_asm); k_whole; intro h' t' S' R' U'; (try dsimp only at S' R' U' ⊢)))) | ((fail_if_success (fail_if_success (with_reducible show wpAny _ _ (call (Value.ref _) (_ :: _)) _ _ _))); (k_here; k_dflt (first | (refine' write_prompt_c _ _ _ ?zqhpv _ _ _ _ _ _ _ ?zqhos ?zqhol _ _ ?zqhrl _ _ _ _ ?zqhes _ ?zqd1 ?zqd2 ?zqd3 ?zqd4 ?zqd5 ?zqd6 _ _ _ _ _ _ _ _ _ _ _ _ _ _ _ _ _ _ _ _ _ _ ?zqk1 ?zqk2 ?zqk3 ?zqk4 ?zqk5 ?zqkK ?zqkd ?zqku ?_; (case zqk1 => k_asm); (case zqk2 => k_asm); (case zqk3 => k_asm); (case zqk4 => k_asm); (case zqk5 => k_asm); (case zqkK => first | exact rfl | assumption); (case zqhes => exact WD.ent); (case zqhpv => assumption); (case zqhos => assumption); (case zqhol => first | assumption | omega); (case zqhrl => first | assumption | omega); (case zqd1 => first | assumption | omega); (case zqd2 => first | assumption | omega); (case zqd3 => first | assumption | omega); (case zqd4 => k_all); (case zqd5 => k_all); (case zqd6 => k_all); (case zqkd => ktr_room); (case zqku => ktr_units); (intro h2 tk2 v2 ovs2 on2 es2 t2 hv2 hos2 hes2 F2 N2; subst hv2; obtain ⟨T2, U2, hes3⟩ := hes2.ex; subst hes3; (dsimp only [wChunk] at N2); (try have hsz9 := Nat.le_trans (wrote_size hos2) (wrote_room (by omega))); (try dsimp only); (try refine (let aw : PySem.Around := _; let ev : PySem.Env := _; let qe : PySem.Flow → PySem.Shared → Prop := _; let ee : PySem.Value → PySem.Shared → Prop := _; (?_ : PySem.wpAny _ aw (PySem.execs _ ev) qe ee _))))) | (refine' fitted_values_c _ _ _ _ _ _ _ ?zqhks ?zqhkl ?zqhx ?zqhxo _ ?zqhmem _ _ _ _ _ _ _ _ _ _ _ _ _ _ _ _ _ _ _ _ _ _ ?zqk1 ?zqk2 ?zqk3 ?zqk4 ?zqk5 ?zqkK ?zqkd ?zqku ?_; (case zqk1 => k_asm); (case zqk2 => k_asm); (case zqk3 => k_asm); (case zqk4 => k_asm); (case zqk5 => k_asm); (case zqkK => first | exact rfl | assumption); (case zqhmem => k_mem); (case zqhks => assumption); (case zqhkl => assumption); (case zqhx => assumption); (case zqhxo => assumption); (case zqkd => ktr_room); (case zqku => ktr_units); refine ⟨fun hfv => ?zqfv1, fun ds9 hfv => ?zqfv2⟩; (case' zqfv1 => (refine Ret.use ?_; intro t9 h9 tk9 F9 N9; (try dsimp only); (try refine (let aw : PySem.Around := _; let ev : PySem.Env := _; let qe : PySem.Flow → PySem.Shared → Prop := _; let ee : PySem.Value → PySem.Shared → Prop := _; (?_ : PySem.wpAny _ aw (PySem.execs _ ev) qe ee _))))); (case' zqfv2 => (intro vs9 n9 l9' h9 tk9 sa9 F9 N9 l9; (try k_lt l9); (try dsimp only); (try refine (let aw : PySem.Around := _; let ev : PySem.Env := _; let qe : PySem.Flow → PySem.Shared → Prop := _; let ee : PySem.Value → PySem.Shared → Prop := _; (?_ : PySem.wpAny _ aw (PySem.execs _ ev) qe ee _)))))) | (refine wpAny_call ?_; (refine' code_def ?zqk1 ?zqk2 ?zqk3 ?zqk4 ?zqk5 ?zqkA ?zqkF ?zqkK ?zqk6 ?zqk7 ?zqk8 ?zqk9 ?zqkB ?_ ?zqc2 ?zqc3 ?zqc4 ?zqc5; (case zqkA => exact rfl); (case zqkF => exact rfl); (case zqkK => first | exact rfl | assumption); (case zqk1 => k_asm); (case zqk2 => k_asm); (case zqk3 => k_asm); (case zqk4 => k_asm); (case zqk5 => k_asm); (case zqk6 => k_is); (case zqk7 => k_is); (case zqk8 => ktr_room); (case zqk9 => exact BindsTo.of_eq rfl); (case zqc5 => decide); (case zqkB => exact locs rfl); (case zqc2 => exact rfl); (case zqc3 => exact rfl); (case zqc4 => exact rfl); k_whole; intro g' L' h' FG' F' N' B' X' T'; (try dsimp only); (try refine (let aw : PySem.Around := _; let ev : PySem.Env := _; let qe : PySem.Flow → PySem.Shared → Prop := _; let ee : PySem.Value → PySem.Shared → Prop := _; (?_ : PySem.wpAny _ aw (PySem.execs _ ev) qe ee _)))))))) | ((fail_if_success (fail_if_success (with_reducible show wpAny _ _ (call (Value.builtin "len") (_ :: _)) _ _ _))); (k_here; (with_reducible show wpAny _ _ (call (Value.builtin "len") [Value.ref _]) _ _ _); k_dflt (refine' len_strsA (News.isList ?zqa ?zqa2) ?zqb ?zqc ?_; (case zqa => k_asm); (case zqa2 => first | k_mem); (case zqb => first | exact StrsAre.nil | exact StrsAre.cons _ _ (by assumption)); (case zqc => simp; try omega); k_whole))) | ((fail_if_success (fail_if_success (with_reducible show wpAny _ _ (call (Value.builtin "list.pop") (_ :: _)) _ _ _))); (k_here; (with_reducible show wpAny _ _ (call (Value.builtin _) [Value.ref _, Value.int _ _]) _ _ _); k_dflt (refine' kl_popAt ?zqF ?zqN ?zqf ?zqk ?zqe ?zqU ?zqz ?_; (case zqF => k_asm); (case zqN => k_asm); (case zqU => k_upd); (case zqf => rfl); (case zqk => exact pop_k _ _); (case zqe => rfl); (case zqz => (rw [sizeLine_eq]; simp; first | assumption | omega))); kl_rest)) | ((with_reducible show wpAny _ _ (setAttr (Value.ref _) (Str.ofString "row") _) _ _ _); k_here; k_dflt (refine' setW_row ?zk1 ?zk2 ?zk3 ?zk4 ?zk5 ?zk6 ?zk7 ?zk8 ?zk9 ?zk12 ?_; (case zk1 => k_asm); (case zk2 => k_asm); (case zk3 => k_asm); (case zk4 => k_inst); (case zk5 => exact rfl); (case zk6 => k_is); (case zk7 => k_is); (case zk8 => k_is); (case zk9 => k_is); (case zk12 => k_upd); k_whole; intro h' F' N'; (try k_sweep))) | (k_unfold; (try dsimp only)) | (k_end; wrow_close) | walk1 | (dsimp only; first | walk1 | (fail_if_success (fail_if_success (with_reducible show wpAny _ _ (call (Value.builtin "len") (_ :: _)) _ _ _))) | (fail_if_success (fail_if_success (with_reducible show wpAny _ _ (call (Value.builtin "list.pop") (_ :: _)) _ _ _))) | (fail_if_success (fail_if_success (with_reducible show wpAny _ _ (call (Value.ref _) (_ :: _)) _ _ _))) | (fail_if_success (fail_if_success (with_reducible show wpAny _ _ (leaving _ (Value.ref _)) _ _ _)))) | (leave1; walk_say "STEP leave1"; try dsimp only) | fail "no step"))
  refine Stop.mk ?_
  (rename Fr _ _ _ _ => lF)
  (rename News _ _ _ _ => lN)
  refine wl (σ := AvSt) (fun c => c.led oa x dx ia ((ka, W.listOf kvs.toArray nk) :: news)) (fun c => [(Str.ofString "world", .ref x), (Str.ofString "prompt", pv), (Str.ofString "is_marked", .bool b), (Str.ofString "kinds", .ref ka), (Str.ofString "read_number", .ref 176), (Str.ofString "found", c.fv)]) (AvInv w oa x dx ia dv sv ((ka, W.listOf kvs.toArray nk) :: news) ks y b (askF ks y b r os xs)) (fun c => c.mu) lF ⟨⟨r, t, os, ovs, on, xs, ivs, inn, _, none⟩, lN, ⟨rfl, rfl, rfl, rfl, rfl, rfl, trivial⟩, WD.ent, hos, hiv, hrl, hrok, hol, hxs, rfl⟩ ?turn ?hE
  case hE => passes_own
  case turn =>
    clear lF lN
    intro c u h tk hP F1 N1
    obtain ⟨r1, t1, os1, ovs1, on1, xs1, ivs1, inn1, es1, fo1⟩ := c
    obtain ⟨hes1, hos1, hiv1, hrl1, hrok1, hol1, hxs1, hR1⟩ := hP
    dsimp only at hes1 hos1 hiv1 hrl1 hrok1 hol1 hxs1 hR1
    obtain ⟨T1, U1, hes2⟩ := hes1.ex
    subst hes2
    cases fo1 with
    | some q =>
      obtain ⟨l, vs2, n2, ds2⟩ := q
      obtain ⟨hc, rfl, hlt, hR⟩ := hR1
      dsimp only [AvSt.led, AvSt.fv, wChunk] at F1 N1 hlt
      (repeat' (first | ((fail_if_success (fail_if_success (with_reducible show wpAny _ _ (leaving _ (Value.ref _)) _ _ _))); (k_here; (refine' leave_raiseS ?zqk1 ?zqk0 ?zqk2 ?zqk3 ?_; (case zqk0 => first | assumption | exact Heap.MadeExc.of (by assumption)); (case zqk2 => assumption); (case zqk1 => assumption); (case zqk3 => k_asm); k_whole; intro h' t' S' R' U'; (try dsimp only at S' R' U' ⊢)))) | ((fail_if_success (fail_if_success (with_reducible show wpAny _ _ (call (Value.ref _) (_ :: _)) _ _ _))); (k_here; k_dflt (first | (refine' write_prompt_c _ _ _ ?zqhpv _ _ _ _ _ _ _ ?zqhos ?zqhol _ _ ?zqhrl _ _ _ _ ?zqhes _ ?zqd1 ?zqd2 ?zqd3 ?zqd4 ?zqd5 ?zqd6 _ _ _ _ _ _ _ _ _ _ _ _ _ _ _ _ _ _ _ _ _ _ ?zqk1 ?zqk2 ?zqk3 ?zqk4 ?zqk5 ?zqkK ?zqkd ?zqku ?_; (case zqk1 => k_asm); (case zqk2 => k_asm); (case zqk3 => k_asm); (case zqk4 => k_asm); (case zqk5 => k_asm); (case zqkK => first | exact rfl | assumption); (case zqhes => exact WD.ent); (case zqhpv => assumption); (case zqhos => assumption); (case zqhol => first | assumption | omega); (case zqhrl => first | assumption | omega); (case zqd1 => first | assumption | omega); (case zqd2 => first | assumption | omega); (case zqd3 => first | assumption | omega); (case zqd4 => k_all); (case zqd5 => k_all); (case zqd6 => k_all); (case zqkd => ktr_room); (case zqku => ktr_units); (intro h2 tk2 v2 ovs2 on2 es2 t2 hv2 hos2 hes2 F2 N2; subst hv2; obtain ⟨T2, U2, hes3⟩ := hes2.ex; subst hes3; (dsimp only [wChunk] at N2); (try have hsz9 := Nat.le_trans (wrote_size hos2) (wrote_room (by omega))); (try dsimp only); (try refine (let aw : PySem.Around := _; let ev : PySem.Env := _; let qe : PySem.Flow → PySem.Shared → Prop := _; let ee : PySem.Value → PySem.Shared → Prop := _; (?_ : PySem.wpAny _ aw (PySem.execs _ ev) qe ee _))))) | (refine' fitted_values_c _ _ _ _ _ _ _ ?zqhks ?zqhkl ?zqhx ?zqhxo _ ?zqhmem _ _ _ _ _ _ _ _ _ _ _ _ _ _ _ _ _ _ _ _ _ _ ?zqk1 ?zqk2 ?zqk3 ?zqk4 ?zqk5 ?zqkK ?zqkd ?zqku ?_; (case zqk1 => k_asm); (case zqk2 => k_asm); (case zqk3 => k_asm); (case zqk4 => k_asm); (case zqk5 => k_asm); (case zqkK => first | exact rfl | assumption); (case zqhmem => k_mem); (case zqhks => assumption); (case zqhkl => assumption); (case zqhx => assumption); (case zqhxo => assumption); (case zqkd => ktr_room); (case zqku => ktr_units); refine ⟨fun hfv => ?zqfv1, fun ds9 hfv => ?zqfv2⟩; (case' zqfv1 => (refine Ret.use ?_; intro t9 h9 tk9 F9 N9; (try dsimp only); (try refine (let aw : PySem.Around := _; let ev : PySem.Env := _; let qe : PySem.Flow → PySem.Shared → Prop := _; let ee : PySem.Value → PySem.Shared → Prop := _; (?_ : PySem.wpAny _ aw (PySem.execs _ ev) qe ee _))))); (case' zqfv2 => (intro vs9 n9 l9' h9 tk9 sa9 F9 N9 l9; (try k_lt l9); (try dsimp only); (try refine (let aw : PySem.Around := _; let ev : PySem.Env := _; let qe : PySem.Flow → PySem.Shared → Prop := _; let ee : PySem.Value → PySem.Shared → Prop := _; (?_ : PySem.wpAny _ aw (PySem.execs _ ev) qe ee _)))))) | (refine wpAny_call ?_; (refine' code_def ?zqk1 ?zqk2 ?zqk3 ?zqk4 ?zqk5 ?zqkA ?zqkF ?zqkK ?zqk6 ?zqk7 ?zqk8 ?zqk9 ?zqkB ?_ ?zqc2 ?zqc3 ?zqc4 ?zqc5; (case zqkA => exact rfl); (case zqkF => exact rfl); (case zqkK => first | exact rfl | assumption); (case zqk1 => k_asm); (case zqk2 => k_asm); (case zqk3 => k_asm); (case zqk4 => k_asm); (case zqk5 => k_asm); (case zqk6 => k_is); (case zqk7 => k_is); (case zqk8 => ktr_room); (case zqk9 => exact BindsTo.of_eq rfl); (case zqc5 => decide); (case zqkB => exact locs rfl); (case zqc2 => exact rfl); (case zqc3 => exact rfl); (case zqc4 => exact rfl); k_whole; intro g' L' h' FG' F' N' B' X' T'; (try dsimp only); (try refine (let aw : PySem.Around := _; let ev : PySem.Env := _; let qe : PySem.Flow → PySem.Shared → Prop := _; let ee : PySem.Value → PySem.Shared → Prop := _; (?_ : PySem.wpAny _ aw (PySem.execs _ ev) qe ee _)))))))) | ((fail_if_success (fail_if_success (with_reducible show wpAny _ _ (call (Value.builtin "len") (_ :: _)) _ _ _))); (k_here; (with_reducible show wpAny _ _ (call (Value.builtin "len") [Value.ref _]) _ _ _); k_dflt (refine' len_strsA (News.isList ?zqa ?zqa2) ?zqb ?zqc ?_; (case zqa => k_asm); (case zqa2 => first | k_mem); (case zqb => first | exact StrsAre.nil | exact StrsAre.cons _ _ (by assumption)); (case zqc => simp; try omega); k_whole))) | ((fail_if_success (fail_if_success (with_reducible show wpAny _ _ (call (Value.builtin "list.pop") (_ :: _)) _ _ _))); (k_here; (with_reducible show wpAny _ _ (call (Value.builtin _) [Value.ref _, Value.int _ _]) _ _ _); k_dflt (refine' kl_popAt ?zqF ?zqN ?zqf ?zqk ?zqe ?zqU ?zqz ?_; (case zqF => k_asm); (case zqN => k_asm); (case zqU => k_upd); (case zqf => rfl); (case zqk => exact pop_k _ _); (case zqe => rfl); (case zqz => (rw [sizeLine_eq]; simp; first | assumption | omega))); kl_rest)) | ((with_reducible show wpAny _ _ (setAttr (Value.ref _) (Str.ofString "row") _) _ _ _); k_here; k_dflt (refine' setW_row ?zk1 ?zk2 ?zk3 ?zk4 ?zk5 ?zk6 ?zk7 ?zk8 ?zk9 ?zk12 ?_; (case zk1 => k_asm); (case zk2 => k_asm); (case zk3 => k_asm); (case zk4 => k_inst); (case zk5 => exact rfl); (case zk6 => k_is); (case zk7 => k_is); (case zk8 => k_is); (case zk9 => k_is); (case zk12 => k_upd); k_whole; intro h' F' N'; (try k_sweep))) | (k_unfold; (try dsimp only)) | (k_end; wrow_close) | walk1 | (dsimp only; first | walk1 | (fail_if_success (fail_if_success (with_reducible show wpAny _ _ (call (Value.builtin "len") (_ :: _)) _ _ _))) | (fail_if_success (fail_if_success (with_reducible show wpAny _ _ (call (Value.builtin "list.pop") (_ :: _)) _ _ _))) | (fail_if_success (fail_if_success (with_reducible show wpAny _ _ (call (Value.ref _) (_ :: _)) _ _ _))) | (fail_if_success (fail_if_success (with_reducible show wpAny _ _ (leaving _ (Value.ref _)) _ _ _)))) | (leave1; walk_say "STEP leave1"; try dsimp only) | fail "no step"))
      rename (News h₀ _ _ _) => hN
      exact hret.1 ds2 os1 xs1 hR _ _ l vs2 n2 ovs1 on1 _ _ ivs1 inn1 hc hos1 hiv1 WD.ent hlt (by k_asm) hN
    | none =>
      dsimp only [AvSt.led, AvSt.fv, wChunk] at F1 N1
      dsimp only at hR1
      have hos4 : os1.length ≤ 100 := q3 hol1 rfl
      have hrl4 : r1.length ≤ 100 := Nat.le_trans hrl1 (by decide)
      have hos3 : ovs1.toArray.size ≤ 100 := by rw [List.size_toArray, hos1.length]; exact q3 hol1 rfl
      cases hiv1 with
      | nil =>
        dsimp only
        (try k_fold)
        (repeat' (first | ((fail_if_success (fail_if_success (with_reducible show wpAny _ _ (leaving _ (Value.ref _)) _ _ _))); (k_here; (refine' leave_raiseS ?zqk1 ?zqk0 ?zqk2 ?zqk3 ?_; (case zqk0 => first | assumption | exact Heap.MadeExc.of (by assumption)); (case zqk2 => assumption); (case zqk1 => assumption); (case zqk3 => k_asm); k_whole; intro h' t' S' R' U'; (try dsimp only at S' R' U' ⊢)))) | ((fail_if_success (fail_if_success (with_reducible show wpAny _ _ (call (Value.ref _) (_ :: _)) _ _ _))); (k_here; k_dflt (first | (refine' write_prompt_c _ _ _ ?zqhpv _ _ _ _ _ _ _ ?zqhos ?zqhol _ _ ?zqhrl _ _ _ _ ?zqhes _ ?zqd1 ?zqd2 ?zqd3 ?zqd4 ?zqd5 ?zqd6 _ _ _ _ _ _ _ _ _ _ _ _ _ _ _ _ _ _ _ _ _ _ ?zqk1 ?zqk2 ?zqk3 ?zqk4 ?zqk5 ?zqkK ?zqkd ?zqku ?_; (case zqk1 => k_asm); (case zqk2 => k_asm); (case zqk3 => k_asm); (case zqk4 => k_asm); (case zqk5 => k_asm); (case zqkK => first | exact rfl | assumption); (case zqhes => exact WD.ent); (case zqhpv => assumption); (case zqhos => assumption); (case zqhol => first | assumption | omega); (case zqhrl => first | assumption | omega); (case zqd1 => first | assumption | omega); (case zqd2 => first | assumption | omega); (case zqd3 => first | assumption | omega); (case zqd4 => k_all); (case zqd5 => k_all); (case zqd6 => k_all); (case zqkd => ktr_room); (case zqku => ktr_units); (intro h2 tk2 v2 ovs2 on2 es2 t2 hv2 hos2 hes2 F2 N2; subst hv2; obtain ⟨T2, U2, hes3⟩ := hes2.ex; subst hes3; (dsimp only [wChunk] at N2); (try have hsz9 := Nat.le_trans (wrote_size hos2) (wrote_room (by omega))); (try dsimp only); (try refine (let aw : PySem.Around := _; let ev : PySem.Env := _; let qe : PySem.Flow → PySem.Shared → Prop := _; let ee : PySem.Value → PySem.Shared → Prop := _; (?_ : PySem.wpAny _ aw (PySem.execs _ ev) qe ee _))))) | (refine' fitted_values_c _ _ _ _ _ _ _ ?zqhks ?zqhkl ?zqhx ?zqhxo _ ?zqhmem _ _ _ _ _ _ _ _ _ _ _ _ _ _ _ _ _ _ _ _ _ _ ?zqk1 ?zqk2 ?zqk3 ?zqk4 ?zqk5 ?zqkK ?zqkd ?zqku ?_; (case zqk1 => k_asm); (case zqk2 => k_asm); (case zqk3 => k_asm); (case zqk4 => k_asm); (case zqk5 => k_asm); (case zqkK => first | exact rfl | assumption); (case zqhmem => k_mem); (case zqhks => assumption); (case zqhkl => assumption); (case zqhx => assumption); (case zqhxo => assumption); (case zqkd => ktr_room); (case zqku => ktr_units); refine ⟨fun hfv => ?zqfv1, fun ds9 hfv => ?zqfv2⟩; (case' zqfv1 => (refine Ret.use ?_; intro t9 h9 tk9 F9 N9; (try dsimp only); (try refine (let aw : PySem.Around := _; let ev : PySem.Env := _; let qe : PySem.Flow → PySem.Shared → Prop := _; let ee : PySem.Value → PySem.Shared → Prop := _; (?_ : PySem.wpAny _ aw (PySem.execs _ ev) qe ee _))))); (case' zqfv2 => (intro vs9 n9 l9' h9 tk9 sa9 F9 N9 l9; (try k_lt l9); (try dsimp only); (try refine (let aw : PySem.Around := _; let ev : PySem.Env := _; let qe : PySem.Flow → PySem.Shared → Prop := _; let ee : PySem.Value → PySem.Shared → Prop := _; (?_ : PySem.wpAny _ aw (PySem.execs _ ev) qe ee _)))))) | (refine wpAny_call ?_; (refine' code_def ?zqk1 ?zqk2 ?zqk3 ?zqk4 ?zqk5 ?zqkA ?zqkF ?zqkK ?zqk6 ?zqk7 ?zqk8 ?zqk9 ?zqkB ?_ ?zqc2 ?zqc3 ?zqc4 ?zqc5; (case zqkA => exact rfl); (case zqkF => exact rfl); (case zqkK => first | exact rfl | assumption); (case zqk1 => k_asm); (case zqk2 => k_asm); (case zqk3 => k_asm); (case zqk4 => k_asm); (case zqk5 => k_asm); (case zqk6 => k_is); (case zqk7 => k_is); (case zqk8 => ktr_room); (case zqk9 => exact BindsTo.of_eq rfl); (case zqc5 => decide); (case zqkB => exact locs rfl); (case zqc2 => exact rfl); (case zqc3 => exact rfl); (case zqc4 => exact rfl); k_whole; intro g' L' h' FG' F' N' B' X' T'; (try dsimp only); (try refine (let aw : PySem.Around := _; let ev : PySem.Env := _; let qe : PySem.Flow → PySem.Shared → Prop := _; let ee : PySem.Value → PySem.Shared → Prop := _; (?_ : PySem.wpAny _ aw (PySem.execs _ ev) qe ee _)))))))) | ((fail_if_success (fail_if_success (with_reducible show wpAny _ _ (call (Value.builtin "len") (_ :: _)) _ _ _))); (k_here; (with_reducible show wpAny _ _ (call (Value.builtin "len") [Value.ref _]) _ _ _); k_dflt (refine' len_strsA (News.isList ?zqa ?zqa2) ?zqb ?zqc ?_; (case zqa => k_asm); (case zqa2 => first | k_mem); (case zqb => first | exact StrsAre.nil | exact StrsAre.cons _ _ (by assumption)); (case zqc => simp; try omega); k_whole))) | ((fail_if_success (fail_if_success (with_reducible show wpAny _ _ (call (Value.builtin "list.pop") (_ :: _)) _ _ _))); (k_here; (with_reducible show wpAny _ _ (call (Value.builtin _) [Value.ref _, Value.int _ _]) _ _ _); k_dflt (refine' kl_popAt ?zqF ?zqN ?zqf ?zqk ?zqe ?zqU ?zqz ?_; (case zqF => k_asm); (case zqN => k_asm); (case zqU => k_upd); (case zqf => rfl); (case zqk => exact pop_k _ _); (case zqe => rfl); (case zqz => (rw [sizeLine_eq]; simp; first | assumption | omega))); kl_rest)) | ((with_reducible show wpAny _ _ (setAttr (Value.ref _) (Str.ofString "row") _) _ _ _); k_here; k_dflt (refine' setW_row ?zk1 ?zk2 ?zk3 ?zk4 ?zk5 ?zk6 ?zk7 ?zk8 ?zk9 ?zk12 ?_; (case zk1 => k_asm); (case zk2 => k_asm); (case zk3 => k_asm); (case zk4 => k_inst); (case zk5 => exact rfl); (case zk6 => k_is); (case zk7 => k_is); (case zk8 => k_is); (case zk9 => k_is); (case zk12 => k_upd); k_whole; intro h' F' N'; (try k_sweep))) | (k_unfold; (try dsimp only)) | (k_end; wrow_close) | walk1 | (dsimp only; first | walk1 | (fail_if_success (fail_if_success (with_reducible show wpAny _ _ (call (Value.builtin "len") (_ :: _)) _ _ _))) | (fail_if_success (fail_if_success (with_reducible show wpAny _ _ (call (Value.builtin "list.pop") (_ :: _)) _ _ _))) | (fail_if_success (fail_if_success (with_reducible show wpAny _ _ (call (Value.ref _) (_ :: _)) _ _ _))) | (fail_if_success (fail_if_success (with_reducible show wpAny _ _ (leaving _ (Value.ref _)) _ _ _)))) | (leave1; walk_say "STEP leave1"; try dsimp only) | fail "no step"))
        rename (RaisedS _ _ _ _ _ _ _ _ _) => hS
        rename (Heap.UpToSlots _ _) => hU
        exact hret.2 os1 hR1 _ _ _ _ _ ovs1 on1 _ r1 t1 inn1 hos1 hrl1 hrok1 WD.ent (by k_asm) hU hS
      | @cons x0 t0 vs3 ys3 hiv2 =>
        have hvl := hiv2.length
        have hol2 : os1.length + 2 * (ys3.length + 1) ≤ 30 := by simpa using hol1
        obtain ⟨hx1, hx2⟩ := hxs1 x0 (List.Mem.head _)
        have hxs2 : ∀ z ∈ ys3, z.length ≤ 20 ∧ PyData.strOk z = true := fun z hz => hxs1 z (List.Mem.tail _ hz)
        have hne : ((List.length (x0 :: ys3) : Nat) : Int) ≠ 0 := q4
        have hv3 : vs3.length ≤ 16777215 := Nat.le_trans (Nat.le_of_eq hvl) (q11 hol2 rfl)
        dsimp only
        (try k_fold)
        (repeat' (first | ((fail_if_success (fail_if_success (with_reducible show wpAny _ _ (leaving _ (Value.ref _)) _ _ _))); (k_here; (refine' leave_raiseS ?zqk1 ?zqk0 ?zqk2 ?zqk3 ?_; (case zqk0 => first | assumption | exact Heap.MadeExc.of (by assumption)); (case zqk2 => assumption); (case zqk1 => assumption); (case zqk3 => k_asm); k_whole; intro h' t' S' R' U'; (try dsimp only at S' R' U' ⊢)))) | ((fail_if_success (fail_if_success (with_reducible show wpAny _ _ (call (Value.ref _) (_ :: _)) _ _ _))); (k_here; k_dflt (first | (refine' write_prompt_c _ _ _ ?zqhpv _ _ _ _ _ _ _ ?zqhos ?zqhol _ _ ?zqhrl _ _ _ _ ?zqhes _ ?zqd1 ?zqd2 ?zqd3 ?zqd4 ?zqd5 ?zqd6 _ _ _ _ _ _ _ _ _ _ _ _ _ _ _ _ _ _ _ _ _ _ ?zqk1 ?zqk2 ?zqk3 ?zqk4 ?zqk5 ?zqkK ?zqkd ?zqku ?_; (case zqk1 => k_asm); (case zqk2 => k_asm); (case zqk3 => k_asm); (case zqk4 => k_asm); (case zqk5 => k_asm); (case zqkK => first | exact rfl | assumption); (case zqhes => exact WD.ent); (case zqhpv => assumption); (case zqhos => assumption); (case zqhol => first | assumption | omega); (case zqhrl => first | assumption | omega); (case zqd1 => first | assumption | omega); (case zqd2 => first | assumption | omega); (case zqd3 => first | assumption | omega); (case zqd4 => k_all); (case zqd5 => k_all); (case zqd6 => k_all); (case zqkd => ktr_room); (case zqku => ktr_units); (intro h2 tk2 v2 ovs2 on2 es2 t2 hv2 hos2 hes2 F2 N2; subst hv2; obtain ⟨T2, U2, hes3⟩ := hes2.ex; subst hes3; (dsimp only [wChunk] at N2); (try have hsz9 := Nat.le_trans (wrote_size hos2) (wrote_room (by omega))); (try dsimp only); (try refine (let aw : PySem.Around := _; let ev : PySem.Env := _; let qe : PySem.Flow → PySem.Shared → Prop := _; let ee : PySem.Value → PySem.Shared → Prop := _; (?_ : PySem.wpAny _ aw (PySem.execs _ ev) qe ee _))))) | (refine' fitted_values_c _ _ _ _ _ _ _ ?zqhks ?zqhkl ?zqhx ?zqhxo _ ?zqhmem _ _ _ _ _ _ _ _ _ _ _ _ _ _ _ _ _ _ _ _ _ _ ?zqk1 ?zqk2 ?zqk3 ?zqk4 ?zqk5 ?zqkK ?zqkd ?zqku ?_; (case zqk1 => k_asm); (case zqk2 => k_asm); (case zqk3 => k_asm); (case zqk4 => k_asm); (case zqk5 => k_asm); (case zqkK => first | exact rfl | assumption); (case zqhmem => k_mem); (case zqhks => assumption); (case zqhkl => assumption); (case zqhx => assumption); (case zqhxo => assumption); (case zqkd => ktr_room); (case zqku => ktr_units); refine ⟨fun hfv => ?zqfv1, fun ds9 hfv => ?zqfv2⟩; (case' zqfv1 => (refine Ret.use ?_; intro t9 h9 tk9 F9 N9; (try dsimp only); (try refine (let aw : PySem.Around := _; let ev : PySem.Env := _; let qe : PySem.Flow → PySem.Shared → Prop := _; let ee : PySem.Value → PySem.Shared → Prop := _; (?_ : PySem.wpAny _ aw (PySem.execs _ ev) qe ee _))))); (case' zqfv2 => (intro vs9 n9 l9' h9 tk9 sa9 F9 N9 l9; (try k_lt l9); (try dsimp only); (try refine (let aw : PySem.Around := _; let ev : PySem.Env := _; let qe : PySem.Flow → PySem.Shared → Prop := _; let ee : PySem.Value → PySem.Shared → Prop := _; (?_ : PySem.wpAny _ aw (PySem.execs _ ev) qe ee _)))))) | (refine wpAny_call ?_; (refine' code_def ?zqk1 ?zqk2 ?zqk3 ?zqk4 ?zqk5 ?zqkA ?zqkF ?zqkK ?zqk6 ?zqk7 ?zqk8 ?zqk9 ?zqkB ?_ ?zqc2 ?zqc3 ?zqc4 ?zqc5; (case zqkA => exact rfl); (case zqkF => exact rfl); (case zqkK => first | exact rfl | assumption); (case zqk1 => k_asm); (case zqk2 => k_asm); (case zqk3 => k_asm); (case zqk4 => k_asm); (case zqk5 => k_asm); (case zqk6 => k_is); (case zqk7 => k_is); (case zqk8 => ktr_room); (case zqk9 => exact BindsTo.of_eq rfl); (case zqc5 => decide); (case zqkB => exact locs rfl); (case zqc2 => exact rfl); (case zqc3 => exact rfl); (case zqc4 => exact rfl); k_whole; intro g' L' h' FG' F' N' B' X' T'; (try dsimp only); (try refine (let aw : PySem.Around := _; let ev : PySem.Env := _; let qe : PySem.Flow → PySem.Shared → Prop := _; let ee : PySem.Value → PySem.Shared → Prop := _; (?_ : PySem.wpAny _ aw (PySem.execs _ ev) qe ee _)))))))) | ((fail_if_success (fail_if_success (with_reducible show wpAny _ _ (call (Value.builtin "len") (_ :: _)) _ _ _))); (k_here; (with_reducible show wpAny _ _ (call (Value.builtin "len") [Value.ref _]) _ _ _); k_dflt (refine' len_strsA (News.isList ?zqa ?zqa2) ?zqb ?zqc ?_; (case zqa => k_asm); (case zqa2 => first | k_mem); (case zqb => first | exact StrsAre.nil | exact StrsAre.cons _ _ (by assumption)); (case zqc => simp; try omega); k_whole))) | ((fail_if_success (fail_if_success (with_reducible show wpAny _ _ (call (Value.builtin "list.pop") (_ :: _)) _ _ _))); (k_here; (with_reducible show wpAny _ _ (call (Value.builtin _) [Value.ref _, Value.int _ _]) _ _ _); k_dflt (refine' kl_popAt ?zqF ?zqN ?zqf ?zqk ?zqe ?zqU ?zqz ?_; (case zqF => k_asm); (case zqN => k_asm); (case zqU => k_upd); (case zqf => rfl); (case zqk => exact pop_k _ _); (case zqe => rfl); (case zqz => (rw [sizeLine_eq]; simp; first | assumption | omega))); kl_rest)) | ((with_reducible show wpAny _ _ (setAttr (Value.ref _) (Str.ofString "row") _) _ _ _); k_here; k_dflt (refine' setW_row ?zk1 ?zk2 ?zk3 ?zk4 ?zk5 ?zk6 ?zk7 ?zk8 ?zk9 ?zk12 ?_; (case zk1 => k_asm); (case zk2 => k_asm); (case zk3 => k_asm); (case zk4 => k_inst); (case zk5 => exact rfl); (case zk6 => k_is); (case zk7 => k_is); (case zk8 => k_is); (case zk9 => k_is); (case zk12 => k_upd); k_whole; intro h' F' N'; (try k_sweep))) | (k_unfold; (try dsimp only)) | (k_end; wrow_close) | walk1 | (dsimp only; first | walk1 | (fail_if_success (fail_if_success (with_reducible show wpAny _ _ (call (Value.builtin "len") (_ :: _)) _ _ _))) | (fail_if_success (fail_if_success (with_reducible show wpAny _ _ (call (Value.builtin "list.pop") (_ :: _)) _ _ _))) | (fail_if_success (fail_if_success (with_reducible show wpAny _ _ (call (Value.ref _) (_ :: _)) _ _ _))) | (fail_if_success (fail_if_success (with_reducible show wpAny _ _ (leaving _ (Value.ref _)) _ _ _)))) | (leave1; walk_say "STEP leave1"; try dsimp only) | fail "no step"))
        all_goals (first | exact absurd (by assumption) hne | skip)
        · rename (fitF ks x0 = some _) => hfv
          rename (CarriedAll _ _) => hcar
          rename (StrsAre _ (wrote _ _)) => hos9
          rename (News _ _ _ _) => hN
          rename (@LT.lt Nat _ oa _ ∧ _) => hl9
          have hw9 := wrote_len (pRow r1 y b) os1
          have hb9 : (wrote (pRow r1 y b) os1).length + 1 + 2 * ys3.length ≤ 30 := q1 hol2 hw9
          have hb8 : (wrote (pRow r1 y b) os1).length + 2 * ys3.length ≤ 30 := q2 hb9
          exact ex4 ⟨Str.ofString "", _, _, _, _, ys3, vs3, _, _, some (_, _, _, _)⟩ _ _ _ ⟨rfl, by k_asm, hN, ⟨rfl, rfl, rfl, rfl, rfl, rfl, trivial⟩, ⟨WD.ent, hos9, hiv2, Nat.zero_le _, (show PyData.strOk (Str.ofString "") = true by decide +kernel), hb8, hxs2, hcar, rfl, allLt_mem (l := wChunk oa _ _ x dx _ ((ia, _) :: (ka, _) :: news)) hl9, hR1.trans (askF_some hfv)⟩, Nat.succ_pos _⟩
        · rename (fitF ks x0 = none) => hfv
          rename (StrsAre _ (wrote _ _)) => hos9
          rename (News _ _ _ _) => hN
          rw [List.push_toArray] at hN
          have hw9 := wrote_len (pRow r1 y b) os1
          have hb9 : (wrote (pRow r1 y b) os1).length + 1 + 2 * ys3.length ≤ 30 := q1 hol2 hw9
          have hb8 : (wrote (pRow r1 y b) os1).length + 2 * ys3.length ≤ 30 := q2 hb9
          exact ex4 ⟨Str.ofString "", _, _ ++ [againT], _, _, ys3, vs3, _, _, none⟩ _ _ _ ⟨rfl, by k_asm, hN, ⟨rfl, rfl, rfl, rfl, rfl, rfl, trivial⟩, ⟨WD.ent, hos9.append' (.cons _ _ .nil), hiv2, Nat.zero_le _, (show PyData.strOk (Str.ofString "") = true by decide +kernel), by rw [List.length_append]; exact hb9, hxs2, hR1.trans (askF_none hfv)⟩, Nat.lt_succ_self _⟩
end Mine
end
section
local macro_rules | `(tactic| walk_at "no such key 0") => `(tactic| skip)
theorem Mine.resetC18 : True ∧ True := by
  first | (walk1; done) | exact ⟨trivial, trivial⟩
end
section
namespace Mine
theorem startC18 : True := by
  w_top off
  trivial
end Mine
open PySem PySem.W PyProof.Rows PySem.Calls PyProof.V PySem.Spec
namespace Mine
local macro_rules | `(tactic| walk_at "execs cons") => `(tactic| (k_here; (fail_if_success (fail_if_success k_gentoks)); with_reducible refine genTok ?_; intro tk))
local macro_rules | `(tactic| walk_at "execs nil") => `(tactic| (k_here; (fail_if_success (fail_if_success k_gentoks)); with_reducible refine genTok ?_; intro tk))
open PyProof.Rows.LCp PyProof.Rows.LCg
noncomputable def CtrL (w : World) (f : Addr) (deep cu : Nat) (vs : List Value) (news : List (Addr × Obj)) (P : Heap → Addr → (Str → Option Value) → Shared → (Value → Shared → Prop) → (Value → Shared → Prop) → Prop) : Prop :=
  ∀ (p : Program) (loose : List Str) (mean : ExcName → Option Value) (mg mb : Str → Option Value) (dp un : Nat) (gd : Option (List Code)) (cn : Str) (cs : Scope) (a : Addr) (ccd : Value) (A₀ : Around) (h₀ : Heap) (L : Addr) (m : Str → Option Value) (s : Shared) (Q E : Value → Shared → Prop),
    Below A₀ h₀ [] h₀ → Fr h₀ L s.heap m → (hd.heap_1 w.params).In h₀ → News h₀ L s.heap news → Top p loose mean mg mb h₀ → cs.kind = .function →
    dp + deep < recursionLimit → un + cu < cLine →
    P h₀ L m s Q E →
    wpAny (model PySem.Challenge.rw_pc0006_01.row.prog w) (ktrTop dp un gd cn cs L a ccd [] []) (call (.ref f) vs) Q E s
noncomputable def KPost (h₀ : Heap) (L : Addr) (m : Str → Option Value) (s : Shared) (led : List (Addr × Obj)) (v : Value) (s₂ : Shared) : Prop :=
  ∃ (ka : Addr) (kvs : List Value) (nk : Nat) (ks : List Str) (h2 : Heap) (tk2 : Nat), v = .ref ka ∧ s₂ = { s with heap := h2, toks := tk2 } ∧ StrsAre kvs ks ∧ ks.length ≤ 3 ∧ AllLt ka led ∧ Fr h₀ L h2 m ∧ News h₀ L h2 ((ka, W.listOf kvs.toArray nk) :: led)
theorem ev_kinds {prog : Program} {w : World} {A : Around} {E : Value → Shared → Prop} {Q : Value → Shared → Prop} {t : Sem Value} {s : Shared} {h₀ : Heap} {L : Addr} {m : Str → Option Value} {led : List (Addr × Obj)}
  (F : Fr h₀ L s.heap m) (N : News h₀ L s.heap led) (h : wpAny (model prog w) A t (KPost h₀ L m s led) E s)
  (next : ∀ (ka : Addr) (kvs : List Value) (nk : Nat) (ks : List Str) (h2 : Heap) (tk2 : Nat), StrsAre kvs ks → ks.length ≤ 3 → AllLt ka led → Fr h₀ L h2 m → News h₀ L h2 ((ka, W.listOf kvs.toArray nk) :: led) → Q (.ref ka) { s with heap := h2, toks := tk2 }) : wpAny (model prog w) A t Q E s := by
  refine wpAny_mono h ?_ (fun _ _ x => x)
  rintro v s₂ ⟨ka, kvs, nk, ks, h2, tk2, rfl, rfl, h1, h2', h3, h4, h5⟩
  exact next _ _ _ _ _ _ h1 h2' h3 h4 h5
noncomputable def PPost (P : Str → Value → Prop) (h₀ : Heap) (L : Addr) (m : Str → Option Value) (s : Shared) (led : List (Addr × Obj)) (v : Value) (s₂ : Shared) : Prop :=
  ∃ (y : Str) (h2 : Heap) (tk2 : Nat), s₂ = { s with heap := h2, toks := tk2 } ∧ P y v ∧ Fr h₀ L h2 m ∧ News h₀ L h2 led
theorem ev_prompt (P : Str → Value → Prop) {prog : Program} {w : World} {A : Around} {E : Value → Shared → Prop} {Q : Value → Shared → Prop} {t : Sem Value} {s : Shared} {h₀ : Heap} {L : Addr} {m : Str → Option Value} {led : List (Addr × Obj)}
  (F : Fr h₀ L s.heap m) (N : News h₀ L s.heap led) (h : wpAny (model prog w) A t (PPost P h₀ L m s led) E s)
  (next : ∀ v (y : Str) (h2 : Heap) (tk2 : Nat), P y v → Fr h₀ L h2 m → News h₀ L h2 led → Q v { s with heap := h2, toks := tk2 }) : wpAny (model prog w) A t Q E s := by
  refine wpAny_mono h ?_ (fun _ _ x => x)
  rintro v s₂ ⟨y, h2, tk2, rfl, h1, h4, h5⟩
  exact next _ _ _ _ h1 h4 h5
theorem ev_text (R : Str → Prop) {prog : Program} {w : World} {A : Around} {E : Value → Shared → Prop} {Q : Value → Shared → Prop} {t : Sem Value} {s : Shared} {h₀ : Heap} {L : Addr} {m : Str → Option Value} {led : List (Addr × Obj)}
  (F : Fr h₀ L s.heap m) (N : News h₀ L s.heap led) (h : wpAny (model prog w) A t (PPost (fun y v => ∃ t, v = .str y t ∧ R y) h₀ L m s led) E s)
  (next : ∀ (y : Str) (t : Tok) (h2 : Heap) (tk2 : Nat), R y → Fr h₀ L h2 m → News h₀ L h2 led → Q (.str y t) { s with heap := h2, toks := tk2 }) : wpAny (model prog w) A t Q E s :=
  ev_prompt _ F N h fun v y h2 tk2 hv F2 N2 => by
    obtain ⟨t, rfl, r⟩ := hv
    exact next y t h2 tk2 r F2 N2
theorem PPost.mk {P : Str → Value → Prop} {h₀ : Heap} {L : Addr} {m : Str → Option Value} {s : Shared} {led : List (Addr × Obj)} {v : Value} {y : Str} {h2 : Heap} {tk2 : Nat} (p : P y v) (F : Fr h₀ L h2 m) (N : News h₀ L h2 led) : PPost P h₀ L m s led v { s with heap := h2, toks := tk2 } := ⟨y, h2, tk2, rfl, p, F, N⟩
theorem pick1 {h₀ h : Heap} {L : Addr} {led l2 : List (Addr × Obj)} {q : Addr × Obj} (N : News h₀ L h led) (m : q ∈ led) (r : ∀ p ∈ l2, p ∈ led) : News h₀ L h (q :: l2) := fun p hp => by
  rcases List.mem_cons.mp hp with rfl | hp
  · exact N _ m
  · exact N p (r p hp)
theorem gs_list_same {prog : Program} {w : World} {A : Around} {E : Value → Shared → Prop} {s : Shared} {h₀ : Heap} {L : Addr} {m : Str → Option Value} {env : Env} {elt : PySem.Expr} {ifs : List PySem.Expr} {x : Str} {px : Pos} {scope : Scope} {cl : List (Str × Addr)} {l : Addr} {its : Array Value} {news : List (Addr × Obj)} {Fin : Shared → Addr → List Value → List (Addr × Obj) → Prop} (J : Nat → List Value → Prop)
    (hh : A.handled = none) (F : Fr h₀ L s.heap m) (N : News h₀ L s.heap news) (hl : s.heap.IsList l its) (hlL : l ≠ L) (hsz : its.size ≤ sizeLine) (hkind : scope.kind = .function) (hx : scope.names.lookup x = some .local) (hj : J 0 [])
    (turn : ∀ s', (∃ h, s' = { s with heap := h }) → GcTurn prog w A h₀ L m elt ifs (fun C => compEnvC scope cl C env) (fun i m₂ => ∃ v, its[i]? = some v ∧ m₂ x = some v) (fun i ys nx => nx = news ∧ J i ys) its.size s')
    (fin : ∀ s', (∃ h, s' = { s with heap := h }) → ∀ D ys, AllLt D news → J its.size ys → Fin s' D ys news) :
    wpAny (model prog w) A (pyIter (.ref l)) (GcAt prog w A h₀ L m env elt (.Name x px) ifs scope cl Fin) E s :=
  gs_list (fun i ys nx => nx = news ∧ J i ys) hh F N hl hlL hsz hkind hx ⟨rfl, hj⟩ turn fun s' hs D ys nx _ h2 hJ => by
    obtain ⟨rfl, hJ⟩ := hJ
    exact fin s' hs D ys (allLt_of h2) hJ
theorem strs_carried : ∀ {vs : List Value} {xs : List Str}, StrsAre vs xs → CarriedAll vs (xs.map .str)
  | _, _, .nil => .nil
  | _, _, .cons y t h => .cons (.str y t) (strs_carried h)
theorem ne_cons {prog : Program} {w : World} {A : Around} {E : Value → Shared → Prop} {s : Shared} {Q : Value → Shared → Prop} {a b : Value} {as bs : List Addr} {x0 : Str} {xs : List Str} (ra : Reads s.heap a (.list ((x0 :: xs).map .str)) as) (rb : Reads s.heap b (.list []) bs) (ha : SeqAt.shaped (.list ((x0 :: xs).map .str)) = true) (hu : A.units + 64 < cLine)
    (h : Q (.bool true) s) : wpAny (model prog w) A (compareOp .NotEq a b) Q E s := by
  refine ne_dataH ra rb ha rfl hu ?_
  rw [eqv_strs_nil]
  exact h
theorem ne_nil {prog : Program} {w : World} {A : Around} {E : Value → Shared → Prop} {s : Shared} {Q : Value → Shared → Prop} {a b : Value} {as bs : List Addr} (ra : Reads s.heap a (.list []) as) (rb : Reads s.heap b (.list []) bs) (hu : A.units + 64 < cLine)
    (h : Q (.bool false) s) : wpAny (model prog w) A (compareOp .NotEq a b) Q E s := by
  refine ne_dataH ra rb rfl rfl hu ?_
  exact h
theorem ne_texts {prog : Program} {w : World} {A : Around} {E : Value → Shared → Prop} {s : Shared} {Q : Value → Shared → Prop} {a b : Value} {as bs : List Addr} {xs : List Str} (ra : Reads s.heap a (.list (xs.map .str)) as) (rb : Reads s.heap b (.list (xs.map .str)) bs) (hx : ∀ z ∈ xs, PyData.strOk z = true) (hu : A.units + 64 < cLine)
    (h : Q (.bool false) s) : wpAny (model prog w) A (compareOp .NotEq a b) Q E s := by
  refine ne_dataH ra rb (shaped_strs hx) (shaped_strs hx) hu ?_
  rw [SeqAt.eqv_refl _ (by simp [PyData.canLay0, (canLayAll_strs hx).1])]
  exact h
theorem eq_texts {prog : Program} {w : World} {A : Around} {E : Value → Shared → Prop} {s : Shared} {Q : Value → Shared → Prop} {a b : Value} {as bs : List Addr} {xs : List Str} (ra : Reads s.heap a (.list (xs.map .str)) as) (rb : Reads s.heap b (.list (xs.map .str)) bs) (hx : ∀ z ∈ xs, PyData.strOk z = true) (hu : A.units + 64 < cLine)
    (h : Q (.bool true) s) : wpAny (model prog w) A (compareOp .Eq a b) Q E s := by
  refine eq_dataH ra rb (shaped_strs hx) (shaped_strs hx) hu ?_
  rw [SeqAt.eqv_refl _ (by simp [PyData.canLay0, (canLayAll_strs hx).1])]
  exact h
theorem str_empty (a : Str) : a ++ Str.ofString "" = a := by
  show (⟨a.cps ++ (Str.ofString "").cps⟩ : Str) = a
  rw [show (Str.ofString "").cps = #[] by decide, Array.append_empty]
theorem lrow (r2 : Str) (rws : List Str) : wrote (pRow (Str.ofString "") (Str.ofString "") false) (wrote (pRow r2 (Str.ofString "L") false) rws) = rws ++ [r2 ++ Str.ofString "L"] := by
  rw [wrote_t (by decide +kernel)]
  have e : pRow r2 (Str.ofString "L") false = r2 ++ Str.ofString "L" := str_empty _
  rw [e]
  refine wrote_f (Bool.eq_false_iff.mpr fun h => ?_)
  have h1 := congrArg Str.length (beq_iff_eq.mp h)
  rw [Str.length_append] at h1
  have h2 : (Str.ofString "L").length = 1 := by decide
  have h3 : (Str.ofString "").length = 0 := by decide
  omega
theorem ne_data {prog : Program} {w : World} {A : Around} {E : Value → Shared → Prop} {s : Shared} {Q : Value → Shared → Prop} {a b : Value} {as bs : List Addr} {ds : List PyData} (ra : Reads s.heap a (.list ds) as) (rb : Reads s.heap b (.list ds) bs) (hx : SeqAt.shaped (.list ds) = true) (hu : A.units + 64 < cLine)
    (h : Q (.bool false) s) : wpAny (model prog w) A (compareOp .NotEq a b) Q E s := by
  refine ne_dataH ra rb hx hx hu ?_
  rw [SeqAt.eqv_refl _ (by unfold SeqAt.shaped at hx; simp at hx; exact hx.1)]
  exact h
noncomputable def flatD (d : PyData) : Prop := d.canLay0 = true ∧ d.depth = 0
theorem flat_shaped : ∀ {ds : List PyData}, (∀ d ∈ ds, flatD d) → PyData.canLayAll0 ds = true ∧ PyData.depthAll ds = 0
  | [], _ => ⟨rfl, rfl⟩
  | d :: ds, h => by
    have ih := flat_shaped (ds := ds) fun z hz => h z (.tail _ hz)
    have h1 := h d (.head _)
    simp [PyData.canLayAll0, PyData.depthAll, ih, h1.1, h1.2]
theorem flat_val {k f : Str} {d : PyData} (hf : PyData.strOk f = true) (h : valF k f = some d) : flatD d := by
  unfold valF at h
  split at h
  · cases h; simp [flatD, PyData.canLay0, PyData.depth, hf]
  · split at h
    · cases h; simp [flatD, PyData.canLay0, PyData.depth]
    · cases hn : numF f with
      | none => rw [hn] at h; cases h
      | some n => rw [hn] at h; cases h; simp [flatD, PyData.canLay0, PyData.depth]
theorem flat_fitL : ∀ {ks fs : List Str} {ds : List PyData}, (∀ f ∈ fs, PyData.strOk f = true) → fitL ks fs = some ds → ∀ d ∈ ds, flatD d
  | [], [], ds, _, h => by cases h; exact List.forall_mem_nil _
  | k :: ks, f :: fs, ds, hf, h => by
    cases hv : valF k f with
    | none => rw [fitL_none hv] at h; cases h
    | some d =>
      rw [fitL_some hv] at h
      cases hr : fitL ks fs with
      | none => rw [hr] at h; cases h
      | some rs =>
        rw [hr] at h
        cases h
        exact List.forall_mem_cons.mpr ⟨flat_val (hf f (.head _)) hv, flat_fitL (fun g hg => hf g (.tail _ hg)) hr⟩
  | [], _ :: _, _, _, h => by cases h
  | _ :: _, [], _, _, h => by cases h
theorem flat_fit {ks : List Str} {x : Str} {ds : List PyData} (hl : x.length ≤ 20) (ho : PyData.strOk x = true) (h : fitF ks x = some ds) : ∀ d ∈ ds, flatD d := by
  unfold fitF at h
  cases hp : partedF x with
  | none => rw [hp] at h; cases h
  | some fs =>
    rw [hp] at h
    dsimp only at h
    split at h
    · exact flat_fitL (fun f hf => (parted_sub hp hl ho f hf).2) h
    · cases h
theorem ask_shaped {ks : List Str} {y : Str} {b : Bool} : ∀ {r : Str} {os : List Str} (xs : List Str) {ds : List PyData} {os2 xs2 : List Str}, askF ks y b r os xs = (some ds, os2, xs2) → (∀ z ∈ xs, z.length ≤ 20 ∧ PyData.strOk z = true) → SeqAt.shaped (.list ds) = true
  | r, os, [], _, _, _, h, _ => by cases h
  | r, os, x :: xs, ds, os2, xs2, h, hx => by
    cases hf : fitF ks x with
    | none => rw [askF_none hf] at h; exact ask_shaped xs h fun z hz => hx z (.tail _ hz)
    | some d2 =>
      rw [askF_some hf] at h
      cases h
      have := flat_shaped (flat_fit (hx x (.head _)).1 (hx x (.head _)).2 hf)
      simp [SeqAt.shaped, PyData.canLay0, PyData.depth, this]
structure RfSt where
  bg : Str
  tb : Tok
  ra : Addr
  rws : List Str
  rvs : List Value
  rn : Nat
  lxs : List Str
  lvs : List Value
  ln : Nat
  fo : Option (Addr × List Value × Nat × List PyData)
noncomputable def RfSt.fv (c : RfSt) : Value := match c.fo with
  | none => .none
  | some q => .ref q.1
noncomputable def RfSt.led (c : RfSt) (lf : Addr) (L0 : List (Addr × Obj)) : List (Addr × Obj) := match c.fo with
  | none => (c.ra, W.listOf c.rvs.toArray c.rn) :: (lf, W.listOf c.lvs.toArray c.ln) :: L0
  | some q => (q.1, W.listOf q.2.1.toArray q.2.2.1) :: (c.ra, W.listOf c.rvs.toArray c.rn) :: (lf, W.listOf c.lvs.toArray c.ln) :: L0
noncomputable def RfSt.mu (c : RfSt) : Nat := match c.fo with
  | none => c.lxs.length + 1
  | some _ => 0
noncomputable def RfInv (lf : Addr) (L0 : List (Addr × Obj)) (ks : List Str) (y : Str) (b : Bool) (R0 : Option (List PyData) × List Str × List Str) (c : RfSt) : Prop :=
  StrsAre c.rvs c.rws ∧ StrsAre c.lvs c.lxs ∧ c.bg.length ≤ 6 ∧ c.rws.length + 2 * c.lxs.length ≤ 20 ∧ (∀ z ∈ c.lxs, RowOk z) ∧ (∀ z ∈ c.rws, PyData.strOk z = true) ∧ PyData.strOk c.bg = true ∧ @Ne Nat c.ra lf ∧ (∀ p ∈ L0, p.1 ≠ c.ra) ∧
  (match c.fo with
  | none => R0 = askF ks y b c.bg c.rws c.lxs
  | some q => CarriedAll q.2.1 q.2.2.2 ∧ (∀ p ∈ (c.ra, W.listOf c.rvs.toArray c.rn) :: (lf, W.listOf c.lvs.toArray c.ln) :: L0, p.1 < q.1) ∧ R0 = (some q.2.2.2, c.rws, c.lxs))
/-- the loop's end -/
noncomputable def RfEnd (h₀ : Heap) (L : Addr) (m : Str → Option Value) (s : Shared) (lf : Addr) (L0 : List (Addr × Obj)) (ps : RfSt → List (Str × Value)) (R0 : Option (List PyData) × List Str × List Str) (P : RfSt → Prop) (f : Flow) (s₂ : Shared) : Prop :=
  f = .next ∧ ∃ (c : RfSt) (u : Str → Option Value) (h : Heap) (tk : Nat), s₂ = { s with heap := h, toks := tk } ∧ Fr h₀ L h (kstB u (ps c)) ∧ News h₀ L h (c.led lf L0) ∧ P c ∧ R0 = (c.fo.map (·.2.2.2), c.rws, c.lxs)
theorem ev_loop {prog : Program} {w : World} {A : Around} {E : Value → Shared → Prop} {Q : Flow → Shared → Prop} {t : Sem Flow} {s : Shared} {h₀ : Heap} {L : Addr} {m : Str → Option Value} {lf : Addr} {L0 : List (Addr × Obj)} (ps : RfSt → List (Str × Value)) (R0 : Option (List PyData) × List Str × List Str) (P : RfSt → Prop)
  (F : Fr h₀ L s.heap m) (h : wpAny (model prog w) A t (RfEnd h₀ L m s lf L0 ps R0 P) E s)
  (next : ∀ (c : RfSt) (u : Str → Option Value) (h : Heap) (tk : Nat), Fr h₀ L h (kstB u (ps c)) → News h₀ L h (c.led lf L0) → P c → R0 = (c.fo.map (·.2.2.2), c.rws, c.lxs) → Q .next { s with heap := h, toks := tk }) : wpAny (model prog w) A t Q E s := by
  refine wpAny_mono h ?_ (fun _ _ x => x)
  rintro f s₂ ⟨rfl, c, u, h, tk, rfl, h1, h2, h3, h4⟩
  exact next c u h tk h1 h2 h3 h4
/-- a new list of texts -/
noncomputable def LPost (ts : List Str) (h₀ : Heap) (L : Addr) (m : Str → Option Value) (s : Shared) (led : List (Addr × Obj)) (v : Value) (s₂ : Shared) : Prop :=
  ∃ (l : Addr) (vs : List Value) (n : Nat) (h2 : Heap) (tk2 : Nat), v = .ref l ∧ s₂ = { s with heap := h2, toks := tk2 } ∧ StrsAre vs ts ∧ AllLt l led ∧ Fr h₀ L h2 m ∧ News h₀ L h2 ((l, W.listOf vs.toArray n) :: led)
theorem ev_list (ts : List Str) {prog : Program} {w : World} {A : Around} {E : Value → Shared → Prop} {Q : Value → Shared → Prop} {t : Sem Value} {s : Shared} {h₀ : Heap} {L : Addr} {m : Str → Option Value} {led : List (Addr × Obj)}
  (F : Fr h₀ L s.heap m) (N : News h₀ L s.heap led) (h : wpAny (model prog w) A t (LPost ts h₀ L m s led) E s)
  (next : ∀ (l : Addr) (vs : List Value) (n : Nat) (h2 : Heap) (tk2 : Nat), StrsAre vs ts → AllLt l led → Fr h₀ L h2 m → News h₀ L h2 ((l, W.listOf vs.toArray n) :: led) → Q (.ref l) { s with heap := h2, toks := tk2 }) : wpAny (model prog w) A t Q E s := by
  refine wpAny_mono h ?_ (fun _ _ x => x)
  rintro v s₂ ⟨l, vs, n, h2, tk2, rfl, rfl, h1, h3, h4, h5⟩
  exact next _ _ _ _ _ h1 h3 h4 h5
theorem ok_append {a b : Str} (h : PyData.strOk a = true) (g : PyData.strOk b = true) : PyData.strOk (a ++ b) = true := by
  unfold PyData.strOk at *
  show (a.cps ++ b.cps).all _ = true
  rw [Array.all_append, h, g]
  rfl
theorem PrV.ok {y : Str} {v : Value} (h : PrV y v) : y.length ≤ 4 ∧ PyData.strOk y = true := by
  cases h with
  | no => exact ⟨by decide, by decide +kernel⟩
  | text _ _ h1 h2 => exact ⟨h1, h2⟩
theorem pRow_ok {r y : Str} (b : Bool) (h : PyData.strOk r = true) (g : PyData.strOk y = true) : PyData.strOk (pRow r y b) = true := by
  refine ok_append (ok_append h g) ?_
  cases b <;> decide +kernel
theorem wrote_ok {z : Str} {os : List Str} (h : PyData.strOk z = true) (g : ∀ y ∈ os, PyData.strOk y = true) : ∀ y ∈ wrote z os, PyData.strOk y = true := by
  unfold wrote
  split
  · exact g
  · intro y hy
    rcases List.mem_append.mp hy with hy | hy
    · exact g y hy
    · rw [List.mem_singleton.mp hy]; exact h
theorem wrote_app (z : Str) (os : List Str) : wrote z os = os ++ wrote z [] := by
  unfold wrote
  split <;> simp
inductive IsCons : Prop | mk
theorem nameLt {a d : Nat} {R : Prop} (_h : @LT.lt Nat _ a d ∧ R) {P : Prop} (k : ∀ b : Addr, b = d → P) : P := k d rfl
theorem toFront {h₀ h : Heap} {L : Addr} {a c : List (Addr × Obj)} {q : Addr × Obj} (N : News h₀ L h (a ++ q :: c)) : News h₀ L h (q :: (a ++ c)) := fun p hp => N p (by
  rcases List.mem_cons.mp hp with rfl | hp
  · exact List.mem_append.mpr (.inr (List.Mem.head _))
  · rcases List.mem_append.mp hp with hp | hp
    · exact List.mem_append.mpr (.inl hp)
    · exact List.mem_append.mpr (.inr (List.Mem.tail _ hp)))
theorem ints_get {vs : List Value} {ns : List Int} (h : IntsAre vs ns) {i : Nat} {v : Value} (hv : vs.toArray[i]? = some v) : ∃ n t, ns[i]? = some n ∧ v = .int n t := by
  rw [List.getElem?_toArray] at hv
  induction h generalizing i with
  | nil => cases hv
  | cons n t h ih =>
    cases i with
    | zero => exact ⟨n, t, rfl, (Option.some.inj hv).symm⟩
    | succ i => exact ih (by simpa using hv)
theorem mod5 (x : Int) : Int.fmod x 5 = 0 ∨ Int.fmod x 5 = 1 ∨ Int.fmod x 5 = 2 ∨ Int.fmod x 5 = 3 ∨ Int.fmod x 5 = 4 := by
  obtain ⟨k, hk⟩ := Int.eq_ofNat_of_zero_le (Int.fmod_nonneg_of_pos x (b := 5) (by decide))
  have h2 := Int.fmod_lt_of_pos x (b := 5) (by decide)
  rw [hk] at h2 ⊢
  exact (by decide : ∀ k : Nat, k < 5 → (k : Int) = 0 ∨ (k : Int) = 1 ∨ (k : Int) = 2 ∨ (k : Int) = 3 ∨ (k : Int) = 4) k (Int.ofNat_lt.mp h2)
theorem mod3 (x : Int) : Int.fmod x 3 = 0 ∨ Int.fmod x 3 = 1 ∨ Int.fmod x 3 = 2 := by
  obtain ⟨k, hk⟩ := Int.eq_ofNat_of_zero_le (Int.fmod_nonneg_of_pos x (b := 3) (by decide))
  have h2 := Int.fmod_lt_of_pos x (b := 3) (by decide)
  rw [hk] at h2 ⊢
  exact (by decide : ∀ k : Nat, k < 3 → (k : Int) = 0 ∨ (k : Int) = 1 ∨ (k : Int) = 2) k (Int.ofNat_lt.mp h2)
theorem mod2 (x : Int) : Int.fmod x 2 = 0 ∨ Int.fmod x 2 = 1 := by
  obtain ⟨k, hk⟩ := Int.eq_ofNat_of_zero_le (Int.fmod_nonneg_of_pos x (b := 2) (by decide))
  have h2 := Int.fmod_lt_of_pos x (b := 2) (by decide)
  rw [hk] at h2 ⊢
  exact (by decide : ∀ k : Nat, k < 2 → (k : Int) = 0 ∨ (k : Int) = 1) k (Int.ofNat_lt.mp h2)
local macro_rules | `(tactic| k_mem) => `(tactic| assumption)

local macro_rules | `(tactic| k_all) => `(tactic| assumption)
local macro_rules | `(tactic| walk_at "WlPost") => `(tactic| dsimp only [WlPost])
local macro_rules | `(tactic| walk_at "eval IfExp") => `(tactic| ((fail_if_success (rename StopOff => x9)); refine Stop.out ?_))
local macro_rules | `(tactic| walk_at "compareOp NotEq ref ref") => `(tactic| (refine Stop.out ?_))
local macro_rules | `(tactic| walk_at "compareOp Eq ref ref") => `(tactic| (refine Stop.out ?_))
local macro_rules | `(tactic| walk_at "binaryOp Add ref ref") => `(tactic| (refine Stop.out ?_))
local macro_rules | `(tactic| walk_at "exec While BoolOp") => `(tactic| (refine Stop.out ?_))
local macro_rules | `(tactic| walk_at "exec Assign cons ListComp") => `(tactic| (refine Stop.out ?_))
local macro_rules | `(tactic| walk_at "eval ListComp") => `(tactic| (refine Stop.out ?_))
local macro_rules | `(tactic| walk_at "call ref nil") => `(tactic| (refine Stop.out ?_))
local macro_rules | `(tactic| walk_at "eval Subscript List BinOp") => `(tactic| ((fail_if_success (rename StopOff => x9)); refine Stop.out ?_))
local macro_rules | `(tactic| walk_at "subscriptTail Name BinOp ref int") => `(tactic| ((rename StopOff => x9); refine Stop.out ?_))
set_option maxHeartbeats 8000000 in
theorem law_asked_c (w : World) (sa : Addr) (vs : List Value) (ns : List Int) (nn : Nat) (hv : IntsAre vs ns) (h0 : ∀ n ∈ ns, 0 ≤ n) (hl : 2 ≤ ns.length) (hl2 : ns.length ≤ 10) (news : List (Addr × Obj)) :
    CtrL w 205 12 1024 [.ref sa] ((sa, W.listOf vs.toArray nn) :: news) (fun h₀ L m s Q E => Ret h₀ L m s Q ((sa, W.listOf vs.toArray nn) :: news) (fun _ => .bool true)) := by
  unfold CtrL
  k_fill
  intro p loose mean mg mb dp un gd cn cs a ccd A₀ h₀ L m s Q E B F X N T hk hdp hu hret
  refine wpAny_call ?_
  k_dflt (refine' code_defS0 ?k1 ?k2 ?k3 ?k4 ?k5 ?kA ?k6 ?k7 ?k8 ?k9 ?kB ?_ ?cK ?c2 ?c3 ?c4 ?c5; (case kA => exact rfl); (case k2 => k_asm); (case k1 => k_asm); (case k3 => k_asm); (case k4 => k_asm); (case k5 => k_asm); (case k6 => k_is); (case k7 => k_is); (case k8 => ktr_room); (case k9 => exact BindsTo.of_eq rfl); (case kB => exact locs rfl); (case cK => assumption); (case c2 => exact rfl); (case c3 => exact rfl); (case c4 => exact rfl); (case c5 => decide); k_whole; intro g' L' h' FG' F' N' B' X' T' D'; (try dsimp only); (try k_fold))
  refine (let aw : PySem.Around := _; let ev : PySem.Env := _; let qe : PySem.Flow → PySem.Shared → Prop := _; let ee : PySem.Value → PySem.Shared → Prop := _; (?_ : PySem.wpAny _ aw (PySem.execs _ ev) qe ee _))
  (try (with_reducible show wpAny _ _ _ _ _ _)); (try k_fold); (repeat' (first | ((fail_if_success (fail_if_success (with_reducible show wpAny _ _ (call (Value.builtin "list.pop") (_ :: _)) _ _ _))); (k_here; (with_reducible show wpAny _ _ (call (Value.builtin _) [Value.ref _, Value.int _ _]) _ _ _); k_dflt (refine' kl_popAt ?zqF ?zqN ?zqf ?zqk ?zqe ?zqU ?zqz ?_; (case zqF => k_asm); (case zqN => k_asm); (case zqU => k_upd); (case zqf => rfl); (case zqk => exact pop_k _ _); (case zqe => rfl); (case zqz => (rw [sizeLine_eq]; simp; first | assumption | omega))); kl_rest)) | ((fail_if_success (fail_if_success (with_reducible show wpAny _ _ (call (Value.ref _) (_ :: _)) _ _ _))); (k_here; k_dflt (first | (refine' law_row_c _ _ _ ?zqh0 _ _ _ _ _ _ _ _ _ _ _ _ _ _ _ _ _ _ _ _ _ _ _ ?zqk1 ?zqk2 ?zqk3 ?zqk4 ?zqk5 ?zqkK ?zqkd ?zqku ?_; (case zqk1 => k_asm); (case zqk2 => k_asm); (case zqk3 => k_asm); (case zqk4 => k_asm); (case zqk5 => k_asm); (case zqkK => first | exact rfl | assumption); (case zqh0 => assumption); (case zqkd => ktr_room); (case zqku => ktr_units); (intro x9 hro9 t9 h9 tk9 r9 e9 F9 N9; subst e9; (try dsimp only); (try k_fold))) | (refine' law_fitted_c _ _ _ _ _ _ _ ?zqhks ?zqhkl ?zqhx ?zqhxo ?zqhpt _ ?zqhmem _ _ _ _ _ _ _ _ _ _ _ _ _ _ _ _ _ _ _ _ _ _ ?zqk1 ?zqk2 ?zqk3 ?zqk4 ?zqk5 ?zqkK ?zqkd ?zqku ?_; (case zqk1 => k_asm); (case zqk2 => k_asm); (case zqk3 => k_asm); (case zqk4 => k_asm); (case zqk5 => k_asm); (case zqkK => first | exact rfl | assumption); (case zqhmem => k_mem); (case zqhks => assumption); (case zqhkl => assumption); (case zqhx => assumption); (case zqhxo => assumption); (case zqhpt => assumption); (case zqkd => ktr_room); (case zqku => ktr_units); refine ⟨fun hfv => ?zqfv1, fun ds9 hfv => ?zqfv2⟩; (case' zqfv1 => (refine Ret.use ?_; intro t9 h9 tk9 F9 N9; (try dsimp only); (try k_fold))); (case' zqfv2 => (intro vs9 n9 l9' h9 tk9 sa9 F9 N9 l9; (try k_lt l9); (try dsimp only); (try k_fold))))))) | (k_unfold; (try dsimp only)) | (k_end; wrow_close) | walk1 | (dsimp only; first | walk1 | (fail_if_success (fail_if_success (with_reducible show wpAny _ _ (call (Value.builtin "list.pop") (_ :: _)) _ _ _))) | (fail_if_success (fail_if_success (with_reducible show wpAny _ _ (call (Value.ref _) (_ :: _)) _ _ _)))) | (leave1; walk_say "STEP leave1"; try dsimp only) | fail "no step"))
  refine Stop.mk ?_
  rename (Fr _ _ _ _) => lF
  rename (News _ _ _ _) => lN
  refine' ev_kinds ?F ?N ?kinds ?_
  case F => exact lF
  case N => exact lN
  case kinds =>
    have so : StopOff := .mk
    (try (with_reducible show wpAny _ _ _ _ _ _)); (try k_fold); (repeat' (first | ((fail_if_success (fail_if_success (with_reducible show wpAny _ _ (call (Value.builtin "list.pop") (_ :: _)) _ _ _))); (k_here; (with_reducible show wpAny _ _ (call (Value.builtin _) [Value.ref _, Value.int _ _]) _ _ _); k_dflt (refine' kl_popAt ?zqF ?zqN ?zqf ?zqk ?zqe ?zqU ?zqz ?_; (case zqF => k_asm); (case zqN => k_asm); (case zqU => k_upd); (case zqf => rfl); (case zqk => exact pop_k _ _); (case zqe => rfl); (case zqz => (rw [sizeLine_eq]; simp; first | assumption | omega))); kl_rest)) | ((fail_if_success (fail_if_success (with_reducible show wpAny _ _ (call (Value.ref _) (_ :: _)) _ _ _))); (k_here; k_dflt (first | (refine' law_row_c _ _ _ ?zqh0 _ _ _ _ _ _ _ _ _ _ _ _ _ _ _ _ _ _ _ _ _ _ _ ?zqk1 ?zqk2 ?zqk3 ?zqk4 ?zqk5 ?zqkK ?zqkd ?zqku ?_; (case zqk1 => k_asm); (case zqk2 => k_asm); (case zqk3 => k_asm); (case zqk4 => k_asm); (case zqk5 => k_asm); (case zqkK => first | exact rfl | assumption); (case zqh0 => assumption); (case zqkd => ktr_room); (case zqku => ktr_units); (intro x9 hro9 t9 h9 tk9 r9 e9 F9 N9; subst e9; (try dsimp only); (try k_fold))) | (refine' law_fitted_c _ _ _ _ _ _ _ ?zqhks ?zqhkl ?zqhx ?zqhxo ?zqhpt _ ?zqhmem _ _ _ _ _ _ _ _ _ _ _ _ _ _ _ _ _ _ _ _ _ _ ?zqk1 ?zqk2 ?zqk3 ?zqk4 ?zqk5 ?zqkK ?zqkd ?zqku ?_; (case zqk1 => k_asm); (case zqk2 => k_asm); (case zqk3 => k_asm); (case zqk4 => k_asm); (case zqk5 => k_asm); (case zqkK => first | exact rfl | assumption); (case zqhmem => k_mem); (case zqhks => assumption); (case zqhkl => assumption); (case zqhx => assumption); (case zqhxo => assumption); (case zqhpt => assumption); (case zqkd => ktr_room); (case zqku => ktr_units); refine ⟨fun hfv => ?zqfv1, fun ds9 hfv => ?zqfv2⟩; (case' zqfv1 => (refine Ret.use ?_; intro t9 h9 tk9 F9 N9; (try dsimp only); (try k_fold))); (case' zqfv2 => (intro vs9 n9 l9' h9 tk9 sa9 F9 N9 l9; (try k_lt l9); (try dsimp only); (try k_fold))))))) | (k_unfold; (try dsimp only)) | (k_end; wrow_close) | walk1 | (dsimp only; first | walk1 | (fail_if_success (fail_if_success (with_reducible show wpAny _ _ (call (Value.builtin "list.pop") (_ :: _)) _ _ _))) | (fail_if_success (fail_if_success (with_reducible show wpAny _ _ (call (Value.ref _) (_ :: _)) _ _ _)))) | (leave1; walk_say "STEP leave1"; try dsimp only) | fail "no step"))
    refine Stop.mk ?_
    rename (News _ _ _ _) => lN2
    repeat (rename (_ ∧ _) => hc; obtain ⟨hc1, hc2⟩ := hc)
    rcases mod5 (ns.getD (Int.toNat 0) 0) with hm | hm | hm | hm | hm
    all_goals
      rw [hm]
      (try (rename StopOff => so9; clear so9))
      (try (with_reducible show wpAny _ _ _ _ _ _)); (try k_fold); (repeat' (first | ((fail_if_success (fail_if_success (with_reducible show wpAny _ _ (call (Value.builtin "list.pop") (_ :: _)) _ _ _))); (k_here; (with_reducible show wpAny _ _ (call (Value.builtin _) [Value.ref _, Value.int _ _]) _ _ _); k_dflt (refine' kl_popAt ?zqF ?zqN ?zqf ?zqk ?zqe ?zqU ?zqz ?_; (case zqF => k_asm); (case zqN => k_asm); (case zqU => k_upd); (case zqf => rfl); (case zqk => exact pop_k _ _); (case zqe => rfl); (case zqz => (rw [sizeLine_eq]; simp; first | assumption | omega))); kl_rest)) | ((fail_if_success (fail_if_success (with_reducible show wpAny _ _ (call (Value.ref _) (_ :: _)) _ _ _))); (k_here; k_dflt (first | (refine' law_row_c _ _ _ ?zqh0 _ _ _ _ _ _ _ _ _ _ _ _ _ _ _ _ _ _ _ _ _ _ _ ?zqk1 ?zqk2 ?zqk3 ?zqk4 ?zqk5 ?zqkK ?zqkd ?zqku ?_; (case zqk1 => k_asm); (case zqk2 => k_asm); (case zqk3 => k_asm); (case zqk4 => k_asm); (case zqk5 => k_asm); (case zqkK => first | exact rfl | assumption); (case zqh0 => assumption); (case zqkd => ktr_room); (case zqku => ktr_units); (intro x9 hro9 t9 h9 tk9 r9 e9 F9 N9; subst e9; (try dsimp only); (try k_fold))) | (refine' law_fitted_c _ _ _ _ _ _ _ ?zqhks ?zqhkl ?zqhx ?zqhxo ?zqhpt _ ?zqhmem _ _ _ _ _ _ _ _ _ _ _ _ _ _ _ _ _ _ _ _ _ _ ?zqk1 ?zqk2 ?zqk3 ?zqk4 ?zqk5 ?zqkK ?zqkd ?zqku ?_; (case zqk1 => k_asm); (case zqk2 => k_asm); (case zqk3 => k_asm); (case zqk4 => k_asm); (case zqk5 => k_asm); (case zqkK => first | exact rfl | assumption); (case zqhmem => k_mem); (case zqhks => assumption); (case zqhkl => assumption); (case zqhx => assumption); (case zqhxo => assumption); (case zqhpt => assumption); (case zqkd => ktr_room); (case zqku => ktr_units); refine ⟨fun hfv => ?zqfv1, fun ds9 hfv => ?zqfv2⟩; (case' zqfv1 => (refine Ret.use ?_; intro t9 h9 tk9 F9 N9; (try dsimp only); (try k_fold))); (case' zqfv2 => (intro vs9 n9 l9' h9 tk9 sa9 F9 N9 l9; (try k_lt l9); (try dsimp only); (try k_fold))))))) | (k_unfold; (try dsimp only)) | (k_end; wrow_close) | walk1 | (dsimp only; first | walk1 | (fail_if_success (fail_if_success (with_reducible show wpAny _ _ (call (Value.builtin "list.pop") (_ :: _)) _ _ _))) | (fail_if_success (fail_if_success (with_reducible show wpAny _ _ (call (Value.ref _) (_ :: _)) _ _ _)))) | (leave1; walk_say "STEP leave1"; try dsimp only) | fail "no step"))
      refine' ⟨_, _, _, _, _, _, rfl, rfl, ?sa, ?kl, ?lt, by k_asm, pick1 lN2 ?mem ?rest⟩
      case rest => exact fun p hp => List.mem_append_right [_, _, _, _, _, _] hp
      case mem => k_mem
      case sa => first | exact .cons _ _ .nil | exact .cons _ _ (.cons _ _ .nil) | exact .cons _ _ (.cons _ _ (.cons _ _ .nil))
      case kl => simp
      case lt => exact ⟨by assumption, by assumption⟩
  intro ka kvs nk ks h2 tk2 hks hkl hka F1 N1
  clear lF lN
  (try (with_reducible show wpAny _ _ _ _ _ _)); (try k_fold); (repeat' (first | ((fail_if_success (fail_if_success (with_reducible show wpAny _ _ (call (Value.builtin "list.pop") (_ :: _)) _ _ _))); (k_here; (with_reducible show wpAny _ _ (call (Value.builtin _) [Value.ref _, Value.int _ _]) _ _ _); k_dflt (refine' kl_popAt ?zqF ?zqN ?zqf ?zqk ?zqe ?zqU ?zqz ?_; (case zqF => k_asm); (case zqN => k_asm); (case zqU => k_upd); (case zqf => rfl); (case zqk => exact pop_k _ _); (case zqe => rfl); (case zqz => (rw [sizeLine_eq]; simp; first | assumption | omega))); kl_rest)) | ((fail_if_success (fail_if_success (with_reducible show wpAny _ _ (call (Value.ref _) (_ :: _)) _ _ _))); (k_here; k_dflt (first | (refine' law_row_c _ _ _ ?zqh0 _ _ _ _ _ _ _ _ _ _ _ _ _ _ _ _ _ _ _ _ _ _ _ ?zqk1 ?zqk2 ?zqk3 ?zqk4 ?zqk5 ?zqkK ?zqkd ?zqku ?_; (case zqk1 => k_asm); (case zqk2 => k_asm); (case zqk3 => k_asm); (case zqk4 => k_asm); (case zqk5 => k_asm); (case zqkK => first | exact rfl | assumption); (case zqh0 => assumption); (case zqkd => ktr_room); (case zqku => ktr_units); (intro x9 hro9 t9 h9 tk9 r9 e9 F9 N9; subst e9; (try dsimp only); (try k_fold))) | (refine' law_fitted_c _ _ _ _ _ _ _ ?zqhks ?zqhkl ?zqhx ?zqhxo ?zqhpt _ ?zqhmem _ _ _ _ _ _ _ _ _ _ _ _ _ _ _ _ _ _ _ _ _ _ ?zqk1 ?zqk2 ?zqk3 ?zqk4 ?zqk5 ?zqkK ?zqkd ?zqku ?_; (case zqk1 => k_asm); (case zqk2 => k_asm); (case zqk3 => k_asm); (case zqk4 => k_asm); (case zqk5 => k_asm); (case zqkK => first | exact rfl | assumption); (case zqhmem => k_mem); (case zqhks => assumption); (case zqhkl => assumption); (case zqhx => assumption); (case zqhxo => assumption); (case zqhpt => assumption); (case zqkd => ktr_room); (case zqku => ktr_units); refine ⟨fun hfv => ?zqfv1, fun ds9 hfv => ?zqfv2⟩; (case' zqfv1 => (refine Ret.use ?_; intro t9 h9 tk9 F9 N9; (try dsimp only); (try k_fold))); (case' zqfv2 => (intro vs9 n9 l9' h9 tk9 sa9 F9 N9 l9; (try k_lt l9); (try dsimp only); (try k_fold))))))) | (k_unfold; (try dsimp only)) | (k_end; wrow_close) | walk1 | (dsimp only; first | walk1 | (fail_if_success (fail_if_success (with_reducible show wpAny _ _ (call (Value.builtin "list.pop") (_ :: _)) _ _ _))) | (fail_if_success (fail_if_success (with_reducible show wpAny _ _ (call (Value.ref _) (_ :: _)) _ _ _)))) | (leave1; walk_say "STEP leave1"; try dsimp only) | fail "no step"))
  refine Stop.mk ?_
  rename (Fr _ _ _ _) => lF
  rename (News _ _ _ _) => lN
  refine' ev_prompt PrV ?F ?N ?prompt ?_
  case F => exact lF
  case N => exact lN
  case prompt =>
    have so : StopOff := .mk
    (try (with_reducible show wpAny _ _ _ _ _ _)); (try k_fold); (repeat' (first | ((fail_if_success (fail_if_success (with_reducible show wpAny _ _ (call (Value.builtin "list.pop") (_ :: _)) _ _ _))); (k_here; (with_reducible show wpAny _ _ (call (Value.builtin _) [Value.ref _, Value.int _ _]) _ _ _); k_dflt (refine' kl_popAt ?zqF ?zqN ?zqf ?zqk ?zqe ?zqU ?zqz ?_; (case zqF => k_asm); (case zqN => k_asm); (case zqU => k_upd); (case zqf => rfl); (case zqk => exact pop_k _ _); (case zqe => rfl); (case zqz => (rw [sizeLine_eq]; simp; first | assumption | omega))); kl_rest)) | ((fail_if_success (fail_if_success (with_reducible show wpAny _ _ (call (Value.ref _) (_ :: _)) _ _ _))); (k_here; k_dflt (first | (refine' law_row_c _ _ _ ?zqh0 _ _ _ _ _ _ _ _ _ _ _ _ _ _ _ _ _ _ _ _ _ _ _ ?zqk1 ?zqk2 ?zqk3 ?zqk4 ?zqk5 ?zqkK ?zqkd ?zqku ?_; (case zqk1 => k_asm); (case zqk2 => k_asm); (case zqk3 => k_asm); (case zqk4 => k_asm); (case zqk5 => k_asm); (case zqkK => first | exact rfl | assumption); (case zqh0 => assumption); (case zqkd => ktr_room); (case zqku => ktr_units); (intro x9 hro9 t9 h9 tk9 r9 e9 F9 N9; subst e9; (try dsimp only); (try k_fold))) | (refine' law_fitted_c _ _ _ _ _ _ _ ?zqhks ?zqhkl ?zqhx ?zqhxo ?zqhpt _ ?zqhmem _ _ _ _ _ _ _ _ _ _ _ _ _ _ _ _ _ _ _ _ _ _ ?zqk1 ?zqk2 ?zqk3 ?zqk4 ?zqk5 ?zqkK ?zqkd ?zqku ?_; (case zqk1 => k_asm); (case zqk2 => k_asm); (case zqk3 => k_asm); (case zqk4 => k_asm); (case zqk5 => k_asm); (case zqkK => first | exact rfl | assumption); (case zqhmem => k_mem); (case zqhks => assumption); (case zqhkl => assumption); (case zqhx => assumption); (case zqhxo => assumption); (case zqhpt => assumption); (case zqkd => ktr_room); (case zqku => ktr_units); refine ⟨fun hfv => ?zqfv1, fun ds9 hfv => ?zqfv2⟩; (case' zqfv1 => (refine Ret.use ?_; intro t9 h9 tk9 F9 N9; (try dsimp only); (try k_fold))); (case' zqfv2 => (intro vs9 n9 l9' h9 tk9 sa9 F9 N9 l9; (try k_lt l9); (try dsimp only); (try k_fold))))))) | (k_unfold; (try dsimp only)) | (k_end; wrow_close) | walk1 | (dsimp only; first | walk1 | (fail_if_success (fail_if_success (with_reducible show wpAny _ _ (call (Value.builtin "list.pop") (_ :: _)) _ _ _))) | (fail_if_success (fail_if_success (with_reducible show wpAny _ _ (call (Value.ref _) (_ :: _)) _ _ _)))) | (leave1; walk_say "STEP leave1"; try dsimp only) | fail "no step"))
    refine Stop.mk ?_
    rename (News _ _ _ _) => lN2
    rcases mod3 (Int.fdiv (ns.getD (Int.toNat 0) 0) 5) with hm | hm | hm
    all_goals
      rw [hm]
      (try (rename StopOff => so9; clear so9))
      (try (with_reducible show wpAny _ _ _ _ _ _)); (try k_fold); (repeat' (first | ((fail_if_success (fail_if_success (with_reducible show wpAny _ _ (call (Value.builtin "list.pop") (_ :: _)) _ _ _))); (k_here; (with_reducible show wpAny _ _ (call (Value.builtin _) [Value.ref _, Value.int _ _]) _ _ _); k_dflt (refine' kl_popAt ?zqF ?zqN ?zqf ?zqk ?zqe ?zqU ?zqz ?_; (case zqF => k_asm); (case zqN => k_asm); (case zqU => k_upd); (case zqf => rfl); (case zqk => exact pop_k _ _); (case zqe => rfl); (case zqz => (rw [sizeLine_eq]; simp; first | assumption | omega))); kl_rest)) | ((fail_if_success (fail_if_success (with_reducible show wpAny _ _ (call (Value.ref _) (_ :: _)) _ _ _))); (k_here; k_dflt (first | (refine' law_row_c _ _ _ ?zqh0 _ _ _ _ _ _ _ _ _ _ _ _ _ _ _ _ _ _ _ _ _ _ _ ?zqk1 ?zqk2 ?zqk3 ?zqk4 ?zqk5 ?zqkK ?zqkd ?zqku ?_; (case zqk1 => k_asm); (case zqk2 => k_asm); (case zqk3 => k_asm); (case zqk4 => k_asm); (case zqk5 => k_asm); (case zqkK => first | exact rfl | assumption); (case zqh0 => assumption); (case zqkd => ktr_room); (case zqku => ktr_units); (intro x9 hro9 t9 h9 tk9 r9 e9 F9 N9; subst e9; (try dsimp only); (try k_fold))) | (refine' law_fitted_c _ _ _ _ _ _ _ ?zqhks ?zqhkl ?zqhx ?zqhxo ?zqhpt _ ?zqhmem _ _ _ _ _ _ _ _ _ _ _ _ _ _ _ _ _ _ _ _ _ _ ?zqk1 ?zqk2 ?zqk3 ?zqk4 ?zqk5 ?zqkK ?zqkd ?zqku ?_; (case zqk1 => k_asm); (case zqk2 => k_asm); (case zqk3 => k_asm); (case zqk4 => k_asm); (case zqk5 => k_asm); (case zqkK => first | exact rfl | assumption); (case zqhmem => k_mem); (case zqhks => assumption); (case zqhkl => assumption); (case zqhx => assumption); (case zqhxo => assumption); (case zqhpt => assumption); (case zqkd => ktr_room); (case zqku => ktr_units); refine ⟨fun hfv => ?zqfv1, fun ds9 hfv => ?zqfv2⟩; (case' zqfv1 => (refine Ret.use ?_; intro t9 h9 tk9 F9 N9; (try dsimp only); (try k_fold))); (case' zqfv2 => (intro vs9 n9 l9' h9 tk9 sa9 F9 N9 l9; (try k_lt l9); (try dsimp only); (try k_fold))))))) | (k_unfold; (try dsimp only)) | (k_end; wrow_close) | walk1 | (dsimp only; first | walk1 | (fail_if_success (fail_if_success (with_reducible show wpAny _ _ (call (Value.builtin "list.pop") (_ :: _)) _ _ _))) | (fail_if_success (fail_if_success (with_reducible show wpAny _ _ (call (Value.ref _) (_ :: _)) _ _ _)))) | (leave1; walk_say "STEP leave1"; try dsimp only) | fail "no step"))
    · exact PPost.mk (.text _ _ (by decide) (by decide +kernel)) (by k_asm) (ndrop (a := []) (b := [_]) lN2)
    · exact PPost.mk (.text _ _ (by decide) (by decide +kernel)) (by k_asm) (ndrop (a := []) (b := [_]) lN2)
    · exact PPost.mk (.no) (by k_asm) (ndrop (a := []) (b := [_]) lN2)
  intro pv y h3 tk3 hpv F2 N2
  clear lF lN
  (try (with_reducible show wpAny _ _ _ _ _ _)); (try k_fold); (repeat' (first | ((fail_if_success (fail_if_success (with_reducible show wpAny _ _ (call (Value.builtin "list.pop") (_ :: _)) _ _ _))); (k_here; (with_reducible show wpAny _ _ (call (Value.builtin _) [Value.ref _, Value.int _ _]) _ _ _); k_dflt (refine' kl_popAt ?zqF ?zqN ?zqf ?zqk ?zqe ?zqU ?zqz ?_; (case zqF => k_asm); (case zqN => k_asm); (case zqU => k_upd); (case zqf => rfl); (case zqk => exact pop_k _ _); (case zqe => rfl); (case zqz => (rw [sizeLine_eq]; simp; first | assumption | omega))); kl_rest)) | ((fail_if_success (fail_if_success (with_reducible show wpAny _ _ (call (Value.ref _) (_ :: _)) _ _ _))); (k_here; k_dflt (first | (refine' law_row_c _ _ _ ?zqh0 _ _ _ _ _ _ _ _ _ _ _ _ _ _ _ _ _ _ _ _ _ _ _ ?zqk1 ?zqk2 ?zqk3 ?zqk4 ?zqk5 ?zqkK ?zqkd ?zqku ?_; (case zqk1 => k_asm); (case zqk2 => k_asm); (case zqk3 => k_asm); (case zqk4 => k_asm); (case zqk5 => k_asm); (case zqkK => first | exact rfl | assumption); (case zqh0 => assumption); (case zqkd => ktr_room); (case zqku => ktr_units); (intro x9 hro9 t9 h9 tk9 r9 e9 F9 N9; subst e9; (try dsimp only); (try k_fold))) | (refine' law_fitted_c _ _ _ _ _ _ _ ?zqhks ?zqhkl ?zqhx ?zqhxo ?zqhpt _ ?zqhmem _ _ _ _ _ _ _ _ _ _ _ _ _ _ _ _ _ _ _ _ _ _ ?zqk1 ?zqk2 ?zqk3 ?zqk4 ?zqk5 ?zqkK ?zqkd ?zqku ?_; (case zqk1 => k_asm); (case zqk2 => k_asm); (case zqk3 => k_asm); (case zqk4 => k_asm); (case zqk5 => k_asm); (case zqkK => first | exact rfl | assumption); (case zqhmem => k_mem); (case zqhks => assumption); (case zqhkl => assumption); (case zqhx => assumption); (case zqhxo => assumption); (case zqhpt => assumption); (case zqkd => ktr_room); (case zqku => ktr_units); refine ⟨fun hfv => ?zqfv1, fun ds9 hfv => ?zqfv2⟩; (case' zqfv1 => (refine Ret.use ?_; intro t9 h9 tk9 F9 N9; (try dsimp only); (try k_fold))); (case' zqfv2 => (intro vs9 n9 l9' h9 tk9 sa9 F9 N9 l9; (try k_lt l9); (try dsimp only); (try k_fold))))))) | (k_unfold; (try dsimp only)) | (k_end; wrow_close) | walk1 | (dsimp only; first | walk1 | (fail_if_success (fail_if_success (with_reducible show wpAny _ _ (call (Value.builtin "list.pop") (_ :: _)) _ _ _))) | (fail_if_success (fail_if_success (with_reducible show wpAny _ _ (call (Value.ref _) (_ :: _)) _ _ _)))) | (leave1; walk_say "STEP leave1"; try dsimp only) | fail "no step"))
  refine Stop.mk ?_
  rename (News _ _ _ _) => lN
  have N3 := ndrop (a := []) (b := [_]) lN
  simp only [List.nil_append] at N3
  clear lN
  k_dflt (refine' world_c _ _ _ _ _ _ _ _ _ _ _ _ _ _ _ _ _ _ _ _ _ _ _ _ ?k1 ?k2 ?k3 ?k4 ?k5 ?kK ?kd ?ku ?_; (case k1 => k_asm); (case k2 => k_asm); (case k3 => k_asm); (case k4 => k_asm); (case k5 => k_asm); (case kK => first | exact rfl | assumption); (case kd => ktr_room); (case ku => ktr_units))
  intro x dx oa ia da es0 no0 t0 hw0 tkw0 rv0 er0 hWD0 wl1 wl2 wl3 wl4 wl5 FW NW
  subst er0
  obtain ⟨T0, U0, rfl⟩ := hWD0.ex
  dsimp only [AllLt] at hka wl1 wl2 wl3 wl4 wl5
  (try dsimp only)
  (try k_fold)
  (try (with_reducible show wpAny _ _ _ _ _ _)); (try k_fold); (repeat' (first | ((fail_if_success (fail_if_success (with_reducible show wpAny _ _ (call (Value.builtin "list.pop") (_ :: _)) _ _ _))); (k_here; (with_reducible show wpAny _ _ (call (Value.builtin _) [Value.ref _, Value.int _ _]) _ _ _); k_dflt (refine' kl_popAt ?zqF ?zqN ?zqf ?zqk ?zqe ?zqU ?zqz ?_; (case zqF => k_asm); (case zqN => k_asm); (case zqU => k_upd); (case zqf => rfl); (case zqk => exact pop_k _ _); (case zqe => rfl); (case zqz => (rw [sizeLine_eq]; simp; first | assumption | omega))); kl_rest)) | ((fail_if_success (fail_if_success (with_reducible show wpAny _ _ (call (Value.ref _) (_ :: _)) _ _ _))); (k_here; k_dflt (first | (refine' law_row_c _ _ _ ?zqh0 _ _ _ _ _ _ _ _ _ _ _ _ _ _ _ _ _ _ _ _ _ _ _ ?zqk1 ?zqk2 ?zqk3 ?zqk4 ?zqk5 ?zqkK ?zqkd ?zqku ?_; (case zqk1 => k_asm); (case zqk2 => k_asm); (case zqk3 => k_asm); (case zqk4 => k_asm); (case zqk5 => k_asm); (case zqkK => first | exact rfl | assumption); (case zqh0 => assumption); (case zqkd => ktr_room); (case zqku => ktr_units); (intro x9 hro9 t9 h9 tk9 r9 e9 F9 N9; subst e9; (try dsimp only); (try k_fold))) | (refine' law_fitted_c _ _ _ _ _ _ _ ?zqhks ?zqhkl ?zqhx ?zqhxo ?zqhpt _ ?zqhmem _ _ _ _ _ _ _ _ _ _ _ _ _ _ _ _ _ _ _ _ _ _ ?zqk1 ?zqk2 ?zqk3 ?zqk4 ?zqk5 ?zqkK ?zqkd ?zqku ?_; (case zqk1 => k_asm); (case zqk2 => k_asm); (case zqk3 => k_asm); (case zqk4 => k_asm); (case zqk5 => k_asm); (case zqkK => first | exact rfl | assumption); (case zqhmem => k_mem); (case zqhks => assumption); (case zqhkl => assumption); (case zqhx => assumption); (case zqhxo => assumption); (case zqhpt => assumption); (case zqkd => ktr_room); (case zqku => ktr_units); refine ⟨fun hfv => ?zqfv1, fun ds9 hfv => ?zqfv2⟩; (case' zqfv1 => (refine Ret.use ?_; intro t9 h9 tk9 F9 N9; (try dsimp only); (try k_fold))); (case' zqfv2 => (intro vs9 n9 l9' h9 tk9 sa9 F9 N9 l9; (try k_lt l9); (try dsimp only); (try k_fold))))))) | (k_unfold; (try dsimp only)) | (k_end; wrow_close) | walk1 | (dsimp only; first | walk1 | (fail_if_success (fail_if_success (with_reducible show wpAny _ _ (call (Value.builtin "list.pop") (_ :: _)) _ _ _))) | (fail_if_success (fail_if_success (with_reducible show wpAny _ _ (call (Value.ref _) (_ :: _)) _ _ _)))) | (leave1; walk_say "STEP leave1"; try dsimp only) | fail "no step"))
  refine Stop.mk ?_
  rename (Fr _ _ _ _) => lF
  rename (News _ _ _ _) => lN
  refine' ev_text (fun y => y.length ≤ 6 ∧ PyData.strOk y = true) ?F ?N ?prompt2 ?_
  case F => exact lF
  case N => exact lN
  case prompt2 =>
    have so : StopOff := .mk
    (try (with_reducible show wpAny _ _ _ _ _ _)); (try k_fold); (repeat' (first | ((fail_if_success (fail_if_success (with_reducible show wpAny _ _ (call (Value.builtin "list.pop") (_ :: _)) _ _ _))); (k_here; (with_reducible show wpAny _ _ (call (Value.builtin _) [Value.ref _, Value.int _ _]) _ _ _); k_dflt (refine' kl_popAt ?zqF ?zqN ?zqf ?zqk ?zqe ?zqU ?zqz ?_; (case zqF => k_asm); (case zqN => k_asm); (case zqU => k_upd); (case zqf => rfl); (case zqk => exact pop_k _ _); (case zqe => rfl); (case zqz => (rw [sizeLine_eq]; simp; first | assumption | omega))); kl_rest)) | ((fail_if_success (fail_if_success (with_reducible show wpAny _ _ (call (Value.ref _) (_ :: _)) _ _ _))); (k_here; k_dflt (first | (refine' law_row_c _ _ _ ?zqh0 _ _ _ _ _ _ _ _ _ _ _ _ _ _ _ _ _ _ _ _ _ _ _ ?zqk1 ?zqk2 ?zqk3 ?zqk4 ?zqk5 ?zqkK ?zqkd ?zqku ?_; (case zqk1 => k_asm); (case zqk2 => k_asm); (case zqk3 => k_asm); (case zqk4 => k_asm); (case zqk5 => k_asm); (case zqkK => first | exact rfl | assumption); (case zqh0 => assumption); (case zqkd => ktr_room); (case zqku => ktr_units); (intro x9 hro9 t9 h9 tk9 r9 e9 F9 N9; subst e9; (try dsimp only); (try k_fold))) | (refine' law_fitted_c _ _ _ _ _ _ _ ?zqhks ?zqhkl ?zqhx ?zqhxo ?zqhpt _ ?zqhmem _ _ _ _ _ _ _ _ _ _ _ _ _ _ _ _ _ _ _ _ _ _ ?zqk1 ?zqk2 ?zqk3 ?zqk4 ?zqk5 ?zqkK ?zqkd ?zqku ?_; (case zqk1 => k_asm); (case zqk2 => k_asm); (case zqk3 => k_asm); (case zqk4 => k_asm); (case zqk5 => k_asm); (case zqkK => first | exact rfl | assumption); (case zqhmem => k_mem); (case zqhks => assumption); (case zqhkl => assumption); (case zqhx => assumption); (case zqhxo => assumption); (case zqhpt => assumption); (case zqkd => ktr_room); (case zqku => ktr_units); refine ⟨fun hfv => ?zqfv1, fun ds9 hfv => ?zqfv2⟩; (case' zqfv1 => (refine Ret.use ?_; intro t9 h9 tk9 F9 N9; (try dsimp only); (try k_fold))); (case' zqfv2 => (intro vs9 n9 l9' h9 tk9 sa9 F9 N9 l9; (try k_lt l9); (try dsimp only); (try k_fold))))))) | (k_unfold; (try dsimp only)) | (k_end; wrow_close) | walk1 | (dsimp only; first | walk1 | (fail_if_success (fail_if_success (with_reducible show wpAny _ _ (call (Value.builtin "list.pop") (_ :: _)) _ _ _))) | (fail_if_success (fail_if_success (with_reducible show wpAny _ _ (call (Value.ref _) (_ :: _)) _ _ _)))) | (leave1; walk_say "STEP leave1"; try dsimp only) | fail "no step"))
    refine Stop.mk ?_
    rename (News _ _ _ _) => lN2
    rcases mod2 (Int.fdiv (ns.getD (Int.toNat 0) 0) 30) with hm | hm
    all_goals
      rw [hm]
      (try (rename StopOff => so9; clear so9))
      (try (with_reducible show wpAny _ _ _ _ _ _)); (try k_fold); (repeat' (first | ((fail_if_success (fail_if_success (with_reducible show wpAny _ _ (call (Value.builtin "list.pop") (_ :: _)) _ _ _))); (k_here; (with_reducible show wpAny _ _ (call (Value.builtin _) [Value.ref _, Value.int _ _]) _ _ _); k_dflt (refine' kl_popAt ?zqF ?zqN ?zqf ?zqk ?zqe ?zqU ?zqz ?_; (case zqF => k_asm); (case zqN => k_asm); (case zqU => k_upd); (case zqf => rfl); (case zqk => exact pop_k _ _); (case zqe => rfl); (case zqz => (rw [sizeLine_eq]; simp; first | assumption | omega))); kl_rest)) | ((fail_if_success (fail_if_success (with_reducible show wpAny _ _ (call (Value.ref _) (_ :: _)) _ _ _))); (k_here; k_dflt (first | (refine' law_row_c _ _ _ ?zqh0 _ _ _ _ _ _ _ _ _ _ _ _ _ _ _ _ _ _ _ _ _ _ _ ?zqk1 ?zqk2 ?zqk3 ?zqk4 ?zqk5 ?zqkK ?zqkd ?zqku ?_; (case zqk1 => k_asm); (case zqk2 => k_asm); (case zqk3 => k_asm); (case zqk4 => k_asm); (case zqk5 => k_asm); (case zqkK => first | exact rfl | assumption); (case zqh0 => assumption); (case zqkd => ktr_room); (case zqku => ktr_units); (intro x9 hro9 t9 h9 tk9 r9 e9 F9 N9; subst e9; (try dsimp only); (try k_fold))) | (refine' law_fitted_c _ _ _ _ _ _ _ ?zqhks ?zqhkl ?zqhx ?zqhxo ?zqhpt _ ?zqhmem _ _ _ _ _ _ _ _ _ _ _ _ _ _ _ _ _ _ _ _ _ _ ?zqk1 ?zqk2 ?zqk3 ?zqk4 ?zqk5 ?zqkK ?zqkd ?zqku ?_; (case zqk1 => k_asm); (case zqk2 => k_asm); (case zqk3 => k_asm); (case zqk4 => k_asm); (case zqk5 => k_asm); (case zqkK => first | exact rfl | assumption); (case zqhmem => k_mem); (case zqhks => assumption); (case zqhkl => assumption); (case zqhx => assumption); (case zqhxo => assumption); (case zqhpt => assumption); (case zqkd => ktr_room); (case zqku => ktr_units); refine ⟨fun hfv => ?zqfv1, fun ds9 hfv => ?zqfv2⟩; (case' zqfv1 => (refine Ret.use ?_; intro t9 h9 tk9 F9 N9; (try dsimp only); (try k_fold))); (case' zqfv2 => (intro vs9 n9 l9' h9 tk9 sa9 F9 N9 l9; (try k_lt l9); (try dsimp only); (try k_fold))))))) | (k_unfold; (try dsimp only)) | (k_end; wrow_close) | walk1 | (dsimp only; first | walk1 | (fail_if_success (fail_if_success (with_reducible show wpAny _ _ (call (Value.builtin "list.pop") (_ :: _)) _ _ _))) | (fail_if_success (fail_if_success (with_reducible show wpAny _ _ (call (Value.ref _) (_ :: _)) _ _ _)))) | (leave1; walk_say "STEP leave1"; try dsimp only) | fail "no step"))
      exact PPost.mk (⟨_, rfl, by decide, by decide +kernel⟩) (by k_asm) (ndrop (a := []) (b := [_]) lN2)
  rintro r tr h5 tk5 ⟨hrl, hrok⟩ F3 N4
  clear lF lN
  (try (with_reducible show wpAny _ _ _ _ _ _)); (try k_fold); (repeat' (first | ((fail_if_success (fail_if_success (with_reducible show wpAny _ _ (call (Value.builtin "list.pop") (_ :: _)) _ _ _))); (k_here; (with_reducible show wpAny _ _ (call (Value.builtin _) [Value.ref _, Value.int _ _]) _ _ _); k_dflt (refine' kl_popAt ?zqF ?zqN ?zqf ?zqk ?zqe ?zqU ?zqz ?_; (case zqF => k_asm); (case zqN => k_asm); (case zqU => k_upd); (case zqf => rfl); (case zqk => exact pop_k _ _); (case zqe => rfl); (case zqz => (rw [sizeLine_eq]; simp; first | assumption | omega))); kl_rest)) | ((fail_if_success (fail_if_success (with_reducible show wpAny _ _ (call (Value.ref _) (_ :: _)) _ _ _))); (k_here; k_dflt (first | (refine' law_row_c _ _ _ ?zqh0 _ _ _ _ _ _ _ _ _ _ _ _ _ _ _ _ _ _ _ _ _ _ _ ?zqk1 ?zqk2 ?zqk3 ?zqk4 ?zqk5 ?zqkK ?zqkd ?zqku ?_; (case zqk1 => k_asm); (case zqk2 => k_asm); (case zqk3 => k_asm); (case zqk4 => k_asm); (case zqk5 => k_asm); (case zqkK => first | exact rfl | assumption); (case zqh0 => assumption); (case zqkd => ktr_room); (case zqku => ktr_units); (intro x9 hro9 t9 h9 tk9 r9 e9 F9 N9; subst e9; (try dsimp only); (try k_fold))) | (refine' law_fitted_c _ _ _ _ _ _ _ ?zqhks ?zqhkl ?zqhx ?zqhxo ?zqhpt _ ?zqhmem _ _ _ _ _ _ _ _ _ _ _ _ _ _ _ _ _ _ _ _ _ _ ?zqk1 ?zqk2 ?zqk3 ?zqk4 ?zqk5 ?zqkK ?zqkd ?zqku ?_; (case zqk1 => k_asm); (case zqk2 => k_asm); (case zqk3 => k_asm); (case zqk4 => k_asm); (case zqk5 => k_asm); (case zqkK => first | exact rfl | assumption); (case zqhmem => k_mem); (case zqhks => assumption); (case zqhkl => assumption); (case zqhx => assumption); (case zqhxo => assumption); (case zqhpt => assumption); (case zqkd => ktr_room); (case zqku => ktr_units); refine ⟨fun hfv => ?zqfv1, fun ds9 hfv => ?zqfv2⟩; (case' zqfv1 => (refine Ret.use ?_; intro t9 h9 tk9 F9 N9; (try dsimp only); (try k_fold))); (case' zqfv2 => (intro vs9 n9 l9' h9 tk9 sa9 F9 N9 l9; (try k_lt l9); (try dsimp only); (try k_fold))))))) | ((with_reducible show wpAny _ _ (setAttr (Value.ref _) (Str.ofString "row") _) _ _ _); k_here; k_dflt (refine' setW_row ?zk1 ?zk2 ?zk3 ?zk4 ?zk5 ?zk6 ?zk7 ?zk8 ?zk9 ?zk12 ?_; (case zk1 => k_asm); (case zk2 => k_asm); (case zk3 => k_asm); (case zk4 => k_inst); (case zk5 => exact rfl); (case zk6 => k_is); (case zk7 => k_is); (case zk8 => k_is); (case zk9 => k_is); (case zk12 => k_upd); k_whole; intro h' F' N'; (try k_sweep))) | ((with_reducible show wpAny _ _ (setAttr (Value.ref _) (Str.ofString "inputs") _) _ _ _); k_here; k_dflt (refine' setW_inputs ?zk1 ?zk2 ?zk3 ?zk4 ?zk5 ?zk6 ?zk7 ?zk8 ?zk9 ?zk12 ?_; (case zk1 => k_asm); (case zk2 => k_asm); (case zk3 => k_asm); (case zk4 => k_inst); (case zk5 => exact rfl); (case zk6 => k_is); (case zk7 => k_is); (case zk8 => k_is); (case zk9 => k_is); (case zk12 => k_upd); k_whole; intro h' F' N'; (try k_sweep))) | (k_unfold; (try dsimp only)) | (k_end; wrow_close) | walk1 | (dsimp only; first | walk1 | (fail_if_success (fail_if_success (with_reducible show wpAny _ _ (call (Value.builtin "list.pop") (_ :: _)) _ _ _))) | (fail_if_success (fail_if_success (with_reducible show wpAny _ _ (call (Value.ref _) (_ :: _)) _ _ _)))) | (leave1; walk_say "STEP leave1"; try dsimp only) | fail "no step"))
  refine Stop.mk ?_
  rename (News _ _ _ _) => lN
  have N5 := ndrop (a := []) (b := [_]) lN
  simp only [List.nil_append] at N5
  clear lN
  with_reducible refine plainObj_wpAny_Assign_Attribute ?_ ?_
  rotate_left
  with_unfolding_all rfl
  (try (with_reducible show wpAny _ _ _ _ _ _)); (try k_fold); (repeat' (first | ((fail_if_success (fail_if_success (with_reducible show wpAny _ _ (call (Value.builtin "list.pop") (_ :: _)) _ _ _))); (k_here; (with_reducible show wpAny _ _ (call (Value.builtin _) [Value.ref _, Value.int _ _]) _ _ _); k_dflt (refine' kl_popAt ?zqF ?zqN ?zqf ?zqk ?zqe ?zqU ?zqz ?_; (case zqF => k_asm); (case zqN => k_asm); (case zqU => k_upd); (case zqf => rfl); (case zqk => exact pop_k _ _); (case zqe => rfl); (case zqz => (rw [sizeLine_eq]; simp; first | assumption | omega))); kl_rest)) | ((fail_if_success (fail_if_success (with_reducible show wpAny _ _ (call (Value.ref _) (_ :: _)) _ _ _))); (k_here; k_dflt (first | (refine' law_row_c _ _ _ ?zqh0 _ _ _ _ _ _ _ _ _ _ _ _ _ _ _ _ _ _ _ _ _ _ _ ?zqk1 ?zqk2 ?zqk3 ?zqk4 ?zqk5 ?zqkK ?zqkd ?zqku ?_; (case zqk1 => k_asm); (case zqk2 => k_asm); (case zqk3 => k_asm); (case zqk4 => k_asm); (case zqk5 => k_asm); (case zqkK => first | exact rfl | assumption); (case zqh0 => assumption); (case zqkd => ktr_room); (case zqku => ktr_units); (intro x9 hro9 t9 h9 tk9 r9 e9 F9 N9; subst e9; (try dsimp only); (try k_fold))) | (refine' law_fitted_c _ _ _ _ _ _ _ ?zqhks ?zqhkl ?zqhx ?zqhxo ?zqhpt _ ?zqhmem _ _ _ _ _ _ _ _ _ _ _ _ _ _ _ _ _ _ _ _ _ _ ?zqk1 ?zqk2 ?zqk3 ?zqk4 ?zqk5 ?zqkK ?zqkd ?zqku ?_; (case zqk1 => k_asm); (case zqk2 => k_asm); (case zqk3 => k_asm); (case zqk4 => k_asm); (case zqk5 => k_asm); (case zqkK => first | exact rfl | assumption); (case zqhmem => k_mem); (case zqhks => assumption); (case zqhkl => assumption); (case zqhx => assumption); (case zqhxo => assumption); (case zqhpt => assumption); (case zqkd => ktr_room); (case zqku => ktr_units); refine ⟨fun hfv => ?zqfv1, fun ds9 hfv => ?zqfv2⟩; (case' zqfv1 => (refine Ret.use ?_; intro t9 h9 tk9 F9 N9; (try dsimp only); (try k_fold))); (case' zqfv2 => (intro vs9 n9 l9' h9 tk9 sa9 F9 N9 l9; (try k_lt l9); (try dsimp only); (try k_fold))))))) | (k_unfold; (try dsimp only)) | (k_end; wrow_close) | walk1 | (dsimp only; first | walk1 | (fail_if_success (fail_if_success (with_reducible show wpAny _ _ (call (Value.builtin "list.pop") (_ :: _)) _ _ _))) | (fail_if_success (fail_if_success (with_reducible show wpAny _ _ (call (Value.ref _) (_ :: _)) _ _ _)))) | (leave1; walk_say "STEP leave1"; try dsimp only) | fail "no step"))
  refine Stop.mk ?_
  rename (Fr _ _ _ _) => lF
  refine gc_eval lF (by with_unfolding_all rfl) (by decide) rfl (by decide) ?_
  (try (with_reducible show wpAny _ _ _ _ _ _)); (try k_fold); (repeat' (first | ((fail_if_success (fail_if_success (with_reducible show wpAny _ _ (call (Value.builtin "list.pop") (_ :: _)) _ _ _))); (k_here; (with_reducible show wpAny _ _ (call (Value.builtin _) [Value.ref _, Value.int _ _]) _ _ _); k_dflt (refine' kl_popAt ?zqF ?zqN ?zqf ?zqk ?zqe ?zqU ?zqz ?_; (case zqF => k_asm); (case zqN => k_asm); (case zqU => k_upd); (case zqf => rfl); (case zqk => exact pop_k _ _); (case zqe => rfl); (case zqz => (rw [sizeLine_eq]; simp; first | assumption | omega))); kl_rest)) | ((fail_if_success (fail_if_success (with_reducible show wpAny _ _ (call (Value.ref _) (_ :: _)) _ _ _))); (k_here; k_dflt (first | (refine' law_row_c _ _ _ ?zqh0 _ _ _ _ _ _ _ _ _ _ _ _ _ _ _ _ _ _ _ _ _ _ _ ?zqk1 ?zqk2 ?zqk3 ?zqk4 ?zqk5 ?zqkK ?zqkd ?zqku ?_; (case zqk1 => k_asm); (case zqk2 => k_asm); (case zqk3 => k_asm); (case zqk4 => k_asm); (case zqk5 => k_asm); (case zqkK => first | exact rfl | assumption); (case zqh0 => assumption); (case zqkd => ktr_room); (case zqku => ktr_units); (intro x9 hro9 t9 h9 tk9 r9 e9 F9 N9; subst e9; (try dsimp only); (try k_fold))) | (refine' law_fitted_c _ _ _ _ _ _ _ ?zqhks ?zqhkl ?zqhx ?zqhxo ?zqhpt _ ?zqhmem _ _ _ _ _ _ _ _ _ _ _ _ _ _ _ _ _ _ _ _ _ _ ?zqk1 ?zqk2 ?zqk3 ?zqk4 ?zqk5 ?zqkK ?zqkd ?zqku ?_; (case zqk1 => k_asm); (case zqk2 => k_asm); (case zqk3 => k_asm); (case zqk4 => k_asm); (case zqk5 => k_asm); (case zqkK => first | exact rfl | assumption); (case zqhmem => k_mem); (case zqhks => assumption); (case zqhkl => assumption); (case zqhx => assumption); (case zqhxo => assumption); (case zqhpt => assumption); (case zqkd => ktr_room); (case zqku => ktr_units); refine ⟨fun hfv => ?zqfv1, fun ds9 hfv => ?zqfv2⟩; (case' zqfv1 => (refine Ret.use ?_; intro t9 h9 tk9 F9 N9; (try dsimp only); (try k_fold))); (case' zqfv2 => (intro vs9 n9 l9' h9 tk9 sa9 F9 N9 l9; (try k_lt l9); (try dsimp only); (try k_fold))))))) | (k_unfold; (try dsimp only)) | (k_end; wrow_close) | walk1 | (dsimp only; first | walk1 | (fail_if_success (fail_if_success (with_reducible show wpAny _ _ (call (Value.builtin "list.pop") (_ :: _)) _ _ _))) | (fail_if_success (fail_if_success (with_reducible show wpAny _ _ (call (Value.ref _) (_ :: _)) _ _ _)))) | (leave1; walk_say "STEP leave1"; try dsimp only) | fail "no step"))
  (try clear lF)
  rename (Fr _ _ _ _) => lF
  rename (News _ _ _ _) => lN
  rename (IntsAre _ (List.take _ _)) => hI
  rename (List.length (List.take _ _) = _) => hC
  have hms6 : (List.take (min 7 ns.length - 1) (List.drop 1 ns)).length ≤ 6 := by rw [hC]; exact Nat.le_trans (Nat.min_le_left _ _) (Nat.sub_le_sub_right (Nat.min_le_left 7 _) 1)
  have hms0 : ∀ n ∈ List.take (min 7 ns.length - 1) (List.drop 1 ns), 0 ≤ n := fun n hn => h0 n (List.mem_of_mem_drop (List.mem_of_mem_take hn))
  have hlsz := hI.length
  dsimp only
  refine' gs_list_same (fun i ys => ∃ xs, StrsAre ys xs ∧ xs.length = i ∧ ∀ y ∈ xs, RowOk y) ?hh ?F ?N ?hl ?hlL ?hsz ?hk ?hx ?hj ?turn ?fin
  case F => exact lF
  case N => exact lN
  case hh => exact rfl
  case hl => exact News.isList lN (List.Mem.head _)
  case hlL => exact (lN _ (List.Mem.head _)).2.1
  case hsz => rw [sizeLine_eq, List.size_toArray, hlsz]; exact Nat.le_trans hms6 (by decide)
  case hk => exact rfl
  case hx => exact rfl
  case hj => exact ⟨[], .nil, rfl, List.forall_mem_nil _⟩
  case turn =>
    refine exH ?_
    intro hp'
    intro i ys nx C oC D m₂ own h tk E' hi hPP hJ hoC F1 N1
    obtain ⟨rfl, xs, hys, hxl, hxs⟩ := hJ
    obtain ⟨v, hvi, hm⟩ := hPP
    obtain ⟨n9, tn9, hn9, rfl⟩ := ints_get hI hvi
    have hn0 : 0 ≤ n9 := hms0 _ (List.mem_of_getElem? hn9)
    clear lF lN
    dsimp only
    (try k_fold)
    (try (with_reducible show wpAny _ _ _ _ _ _)); (try k_fold); (repeat' (first | ((fail_if_success (fail_if_success (with_reducible show wpAny _ _ (call (Value.builtin "list.pop") (_ :: _)) _ _ _))); (k_here; (with_reducible show wpAny _ _ (call (Value.builtin _) [Value.ref _, Value.int _ _]) _ _ _); k_dflt (refine' kl_popAt ?zqF ?zqN ?zqf ?zqk ?zqe ?zqU ?zqz ?_; (case zqF => k_asm); (case zqN => k_asm); (case zqU => k_upd); (case zqf => rfl); (case zqk => exact pop_k _ _); (case zqe => rfl); (case zqz => (rw [sizeLine_eq]; simp; first | assumption | omega))); kl_rest)) | ((fail_if_success (fail_if_success (with_reducible show wpAny _ _ (call (Value.ref _) (_ :: _)) _ _ _))); (k_here; k_dflt (first | (refine' law_row_c _ _ _ ?zqh0 _ _ _ _ _ _ _ _ _ _ _ _ _ _ _ _ _ _ _ _ _ _ _ ?zqk1 ?zqk2 ?zqk3 ?zqk4 ?zqk5 ?zqkK ?zqkd ?zqku ?_; (case zqk1 => k_asm); (case zqk2 => k_asm); (case zqk3 => k_asm); (case zqk4 => k_asm); (case zqk5 => k_asm); (case zqkK => first | exact rfl | assumption); (case zqh0 => assumption); (case zqkd => ktr_room); (case zqku => ktr_units); (intro x9 hro9 t9 h9 tk9 r9 e9 F9 N9; subst e9; (try dsimp only); (try k_fold))) | (refine' law_fitted_c _ _ _ _ _ _ _ ?zqhks ?zqhkl ?zqhx ?zqhxo ?zqhpt _ ?zqhmem _ _ _ _ _ _ _ _ _ _ _ _ _ _ _ _ _ _ _ _ _ _ ?zqk1 ?zqk2 ?zqk3 ?zqk4 ?zqk5 ?zqkK ?zqkd ?zqku ?_; (case zqk1 => k_asm); (case zqk2 => k_asm); (case zqk3 => k_asm); (case zqk4 => k_asm); (case zqk5 => k_asm); (case zqkK => first | exact rfl | assumption); (case zqhmem => k_mem); (case zqhks => assumption); (case zqhkl => assumption); (case zqhx => assumption); (case zqhxo => assumption); (case zqhpt => assumption); (case zqkd => ktr_room); (case zqku => ktr_units); refine ⟨fun hfv => ?zqfv1, fun ds9 hfv => ?zqfv2⟩; (case' zqfv1 => (refine Ret.use ?_; intro t9 h9 tk9 F9 N9; (try dsimp only); (try k_fold))); (case' zqfv2 => (intro vs9 n9 l9' h9 tk9 sa9 F9 N9 l9; (try k_lt l9); (try dsimp only); (try k_fold))))))) | (k_unfold; (try dsimp only)) | (k_end; wrow_close) | walk1 | (dsimp only; first | walk1 | (fail_if_success (fail_if_success (with_reducible show wpAny _ _ (call (Value.builtin "list.pop") (_ :: _)) _ _ _))) | (fail_if_success (fail_if_success (with_reducible show wpAny _ _ (call (Value.ref _) (_ :: _)) _ _ _)))) | (leave1; walk_say "STEP leave1"; try dsimp only) | fail "no step"))
    rename (RowOk _) => hro
    refine ⟨_, _, _, rfl, by k_asm, by k_asm, fun p hp => .inl ⟨p, hp, rfl⟩, rfl, ?_⟩
    refine ⟨xs ++ [_], hys.append' (.cons _ _ .nil), by rw [List.length_append, hxl]; rfl, fun y hy => ?_⟩
    rcases List.mem_append.mp hy with hy | hy
    · exact hxs y hy
    · rw [List.mem_singleton.mp hy]
      exact hro
  refine exH ?_
  intro hp'
  rintro ld ys hld ⟨xs, hys, hxl, hxs⟩
  intro h6 tk6 F6 N6
  clear lF lN
  dsimp only [AllLt] at hld ⊢
  (try k_fold)
  (try (with_reducible show wpAny _ _ _ _ _ _)); (try k_fold); (repeat' (first | ((fail_if_success (fail_if_success (with_reducible show wpAny _ _ (call (Value.builtin "list.pop") (_ :: _)) _ _ _))); (k_here; (with_reducible show wpAny _ _ (call (Value.builtin _) [Value.ref _, Value.int _ _]) _ _ _); k_dflt (refine' kl_popAt ?zqF ?zqN ?zqf ?zqk ?zqe ?zqU ?zqz ?_; (case zqF => k_asm); (case zqN => k_asm); (case zqU => k_upd); (case zqf => rfl); (case zqk => exact pop_k _ _); (case zqe => rfl); (case zqz => (rw [sizeLine_eq]; simp; first | assumption | omega))); kl_rest)) | ((fail_if_success (fail_if_success (with_reducible show wpAny _ _ (call (Value.ref _) (_ :: _)) _ _ _))); (k_here; k_dflt (first | (refine' law_row_c _ _ _ ?zqh0 _ _ _ _ _ _ _ _ _ _ _ _ _ _ _ _ _ _ _ _ _ _ _ ?zqk1 ?zqk2 ?zqk3 ?zqk4 ?zqk5 ?zqkK ?zqkd ?zqku ?_; (case zqk1 => k_asm); (case zqk2 => k_asm); (case zqk3 => k_asm); (case zqk4 => k_asm); (case zqk5 => k_asm); (case zqkK => first | exact rfl | assumption); (case zqh0 => assumption); (case zqkd => ktr_room); (case zqku => ktr_units); (intro x9 hro9 t9 h9 tk9 r9 e9 F9 N9; subst e9; (try dsimp only); (try k_fold))) | (refine' law_fitted_c _ _ _ _ _ _ _ ?zqhks ?zqhkl ?zqhx ?zqhxo ?zqhpt _ ?zqhmem _ _ _ _ _ _ _ _ _ _ _ _ _ _ _ _ _ _ _ _ _ _ ?zqk1 ?zqk2 ?zqk3 ?zqk4 ?zqk5 ?zqkK ?zqkd ?zqku ?_; (case zqk1 => k_asm); (case zqk2 => k_asm); (case zqk3 => k_asm); (case zqk4 => k_asm); (case zqk5 => k_asm); (case zqkK => first | exact rfl | assumption); (case zqhmem => k_mem); (case zqhks => assumption); (case zqhkl => assumption); (case zqhx => assumption); (case zqhxo => assumption); (case zqhpt => assumption); (case zqkd => ktr_room); (case zqku => ktr_units); refine ⟨fun hfv => ?zqfv1, fun ds9 hfv => ?zqfv2⟩; (case' zqfv1 => (refine Ret.use ?_; intro t9 h9 tk9 F9 N9; (try dsimp only); (try k_fold))); (case' zqfv2 => (intro vs9 n9 l9' h9 tk9 sa9 F9 N9 l9; (try k_lt l9); (try dsimp only); (try k_fold))))))) | ((with_reducible show wpAny _ _ (setAttr (Value.ref _) (Str.ofString "row") _) _ _ _); k_here; k_dflt (refine' setW_row ?zk1 ?zk2 ?zk3 ?zk4 ?zk5 ?zk6 ?zk7 ?zk8 ?zk9 ?zk12 ?_; (case zk1 => k_asm); (case zk2 => k_asm); (case zk3 => k_asm); (case zk4 => k_inst); (case zk5 => exact rfl); (case zk6 => k_is); (case zk7 => k_is); (case zk8 => k_is); (case zk9 => k_is); (case zk12 => k_upd); k_whole; intro h' F' N'; (try k_sweep))) | ((with_reducible show wpAny _ _ (setAttr (Value.ref _) (Str.ofString "inputs") _) _ _ _); k_here; k_dflt (refine' setW_inputs ?zk1 ?zk2 ?zk3 ?zk4 ?zk5 ?zk6 ?zk7 ?zk8 ?zk9 ?zk12 ?_; (case zk1 => k_asm); (case zk2 => k_asm); (case zk3 => k_asm); (case zk4 => k_inst); (case zk5 => exact rfl); (case zk6 => k_is); (case zk7 => k_is); (case zk8 => k_is); (case zk9 => k_is); (case zk12 => k_upd); k_whole; intro h' F' N'; (try k_sweep))) | (k_unfold; (try dsimp only)) | (k_end; wrow_close) | walk1 | (dsimp only; first | walk1 | (fail_if_success (fail_if_success (with_reducible show wpAny _ _ (call (Value.builtin "list.pop") (_ :: _)) _ _ _))) | (fail_if_success (fail_if_success (with_reducible show wpAny _ _ (call (Value.ref _) (_ :: _)) _ _ _)))) | (leave1; walk_say "STEP leave1"; try dsimp only) | fail "no step"))
  refine Stop.mk ?_
  rename (@LT.lt Nat _ da _ ∧ _) => hq1
  refine nameLt hq1 ?_
  intro rl e
  subst e
  rename (@LT.lt Nat _ ld _ ∧ _) => hq2
  refine nameLt hq2 ?_
  intro lf e
  subst e
  rename (Fr _ _ _ _) => lF
  rename (News _ _ _ _) => lN
  have N7 := ndrop (a := [_, _]) (b := [_]) (ndrop (a := []) (b := [_]) lN)
  have hxl6 : xs.length ≤ 6 := by rw [hxl, List.size_toArray, hlsz]; exact hms6
  simp only [List.nil_append, List.cons_append] at N7
  refine genEq (Int.fmod (Int.fdiv (List.getD ns (Int.toNat 0) 0) 15) 2 == 0) ?_
  intro bm hbm
  rw [hbm] at lF
  clear hbm
  have N8 : News g' L' _ ((rl, W.listOf ([] : List Value).toArray 0) :: (lf, W.listOf ys.toArray _) :: (ld, lst ys) :: (da, W.listOf #[] 0) :: (ia, W.listOf #[] 0) :: (oa, W.listOf #[] 0) :: (x, instObj 166 dx) :: (dx, dictOf _ 28) :: (ka, W.listOf kvs.toArray nk) :: (sa, W.listOf vs.toArray nn) :: news) := toFront (a := [_, _]) N7
  clear lN N7
  refine genNews2 N8 ?_
  clear N8
  intro L0 hL0 N8
  have hLka : (ka, W.listOf kvs.toArray nk) ∈ L0 := by
    rw [← hL0]
    k_mem
  have hLrl : ∀ p ∈ L0, p.1 ≠ rl := by
    rw [← hL0]
    exact List.forall_mem_cons.mpr ⟨Nat.ne_of_gt hld.2.1, fun p hp => Nat.ne_of_lt (allLt_mem (l := _) (by exact hq1) p hp)⟩
  have hLlf : ∀ p ∈ L0, p.1 ≠ lf := by
    rw [← hL0]
    exact List.forall_mem_cons.mpr ⟨Nat.ne_of_lt hq2.1, fun p hp => Nat.ne_of_lt (allLt_mem (l := _) (by exact hq2.2.2.2) p hp)⟩
  have hrlf : @Ne Nat rl lf := Nat.ne_of_lt hq2.2.2.1
  obtain ⟨hyl, hyo⟩ := hpv.ok
  refine' ev_loop (lf := lf) (L0 := L0) (fun c => [(Str.ofString "some", .ref sa), (Str.ofString "kinds", .ref ka), (Str.ofString "prompt", pv), (Str.ofString "is_marked", .bool bm), (Str.ofString "world", .ref x), (Str.ofString "rows", .ref c.ra), (Str.ofString "left", .ref lf), (Str.ofString "due", c.fv), (Str.ofString "begin", .str c.bg c.tb)]) (askF ks y bm r [] xs) (RfInv lf L0 ks y bm (askF ks y bm r [] xs)) ?F ?loop ?_
  case F => exact lF
  case loop =>
    refine' wl (σ := RfSt) (fun c => c.led lf L0) (fun c => [(Str.ofString "some", .ref sa), (Str.ofString "kinds", .ref ka), (Str.ofString "prompt", pv), (Str.ofString "is_marked", .bool bm), (Str.ofString "world", .ref x), (Str.ofString "rows", .ref c.ra), (Str.ofString "left", .ref lf), (Str.ofString "due", c.fv), (Str.ofString "begin", .str c.bg c.tb)]) (RfInv lf L0 ks y bm (askF ks y bm r [] xs)) (fun c => c.mu) ?F ?c ?turn ?hE
    case F => exact lF
    case c => exact ⟨⟨r, tr, rl, [], [], 0, xs, ys, _, none⟩, N8, ⟨rfl, rfl, rfl, rfl, rfl, rfl, rfl, rfl, rfl, trivial⟩, .nil, hys, hrl, q10 hxl6, hxs, List.forall_mem_nil _, hrok, hrlf, hLrl, rfl⟩
    case hE => passes_own
    case turn =>
      clear lF N8 hL0
      intro c u h tk hP F1 N1
      obtain ⟨bg, tb, ra, rws, rvs, rn, lxs, lvs, ln, fo⟩ := c
      obtain ⟨hrv, hlv, hbl, hrn, hlo, hro, hbo, hne1, hne2, hR⟩ := hP
      dsimp only at hrv hlv hbl hrn hlo hro hbo hne1 hne2 hR
      cases fo with
      | some q =>
        obtain ⟨l, vs2, n2, ds2⟩ := q
        obtain ⟨hc, hlt, hR⟩ := hR
        dsimp only [RfSt.led, RfSt.fv] at F1 N1 hlt
        cases hlv with
        | nil =>
          (try (with_reducible show wpAny _ _ _ _ _ _)); (try k_fold); (repeat' (first | ((fail_if_success (fail_if_success (with_reducible show wpAny _ _ (call (Value.builtin "list.pop") (_ :: _)) _ _ _))); (k_here; (with_reducible show wpAny _ _ (call (Value.builtin _) [Value.ref _, Value.int _ _]) _ _ _); k_dflt (refine' kl_popAt ?zqF ?zqN ?zqf ?zqk ?zqe ?zqU ?zqz ?_; (case zqF => k_asm); (case zqN => k_asm); (case zqU => k_upd); (case zqf => rfl); (case zqk => exact pop_k _ _); (case zqe => rfl); (case zqz => (rw [sizeLine_eq]; simp; first | assumption | omega))); kl_rest)) | ((fail_if_success (fail_if_success (with_reducible show wpAny _ _ (call (Value.ref _) (_ :: _)) _ _ _))); (k_here; k_dflt (first | (refine' law_row_c _ _ _ ?zqh0 _ _ _ _ _ _ _ _ _ _ _ _ _ _ _ _ _ _ _ _ _ _ _ ?zqk1 ?zqk2 ?zqk3 ?zqk4 ?zqk5 ?zqkK ?zqkd ?zqku ?_; (case zqk1 => k_asm); (case zqk2 => k_asm); (case zqk3 => k_asm); (case zqk4 => k_asm); (case zqk5 => k_asm); (case zqkK => first | exact rfl | assumption); (case zqh0 => assumption); (case zqkd => ktr_room); (case zqku => ktr_units); (intro x9 hro9 t9 h9 tk9 r9 e9 F9 N9; subst e9; (try dsimp only); (try k_fold))) | (refine' law_fitted_c _ _ _ _ _ _ _ ?zqhks ?zqhkl ?zqhx ?zqhxo ?zqhpt _ ?zqhmem _ _ _ _ _ _ _ _ _ _ _ _ _ _ _ _ _ _ _ _ _ _ ?zqk1 ?zqk2 ?zqk3 ?zqk4 ?zqk5 ?zqkK ?zqkd ?zqku ?_; (case zqk1 => k_asm); (case zqk2 => k_asm); (case zqk3 => k_asm); (case zqk4 => k_asm); (case zqk5 => k_asm); (case zqkK => first | exact rfl | assumption); (case zqhmem => k_mem); (case zqhks => assumption); (case zqhkl => assumption); (case zqhx => assumption); (case zqhxo => assumption); (case zqhpt => assumption); (case zqkd => ktr_room); (case zqku => ktr_units); refine ⟨fun hfv => ?zqfv1, fun ds9 hfv => ?zqfv2⟩; (case' zqfv1 => (refine Ret.use ?_; intro t9 h9 tk9 F9 N9; (try dsimp only); (try k_fold))); (case' zqfv2 => (intro vs9 n9 l9' h9 tk9 sa9 F9 N9 l9; (try k_lt l9); (try dsimp only); (try k_fold))))))) | (k_unfold; (try dsimp only)) | (k_end; wrow_close) | walk1 | (dsimp only; first | walk1 | (fail_if_success (fail_if_success (with_reducible show wpAny _ _ (call (Value.builtin "list.pop") (_ :: _)) _ _ _))) | (fail_if_success (fail_if_success (with_reducible show wpAny _ _ (call (Value.ref _) (_ :: _)) _ _ _)))) | (leave1; walk_say "STEP leave1"; try dsimp only) | fail "no step"))
          refine Stop.mk ?_
          rename (News _ _ _ _) => lN
          refine' ne_nil (reads_newData (ds := []) ?a .nil) (reads_newData (ds := []) ?c .nil) ?f ?_
          case a => exact News.isList lN (.tail _ (.tail _ (.tail _ (.head _))))
          case c => exact News.isList lN (.head _)
          case f => exact (Mine.rm2 hu rfl : un + 3 + 64 < cLine)
          (try (with_reducible show wpAny _ _ _ _ _ _)); (try k_fold); (repeat' (first | ((fail_if_success (fail_if_success (with_reducible show wpAny _ _ (call (Value.builtin "list.pop") (_ :: _)) _ _ _))); (k_here; (with_reducible show wpAny _ _ (call (Value.builtin _) [Value.ref _, Value.int _ _]) _ _ _); k_dflt (refine' kl_popAt ?zqF ?zqN ?zqf ?zqk ?zqe ?zqU ?zqz ?_; (case zqF => k_asm); (case zqN => k_asm); (case zqU => k_upd); (case zqf => rfl); (case zqk => exact pop_k _ _); (case zqe => rfl); (case zqz => (rw [sizeLine_eq]; simp; first | assumption | omega))); kl_rest)) | ((fail_if_success (fail_if_success (with_reducible show wpAny _ _ (call (Value.ref _) (_ :: _)) _ _ _))); (k_here; k_dflt (first | (refine' law_row_c _ _ _ ?zqh0 _ _ _ _ _ _ _ _ _ _ _ _ _ _ _ _ _ _ _ _ _ _ _ ?zqk1 ?zqk2 ?zqk3 ?zqk4 ?zqk5 ?zqkK ?zqkd ?zqku ?_; (case zqk1 => k_asm); (case zqk2 => k_asm); (case zqk3 => k_asm); (case zqk4 => k_asm); (case zqk5 => k_asm); (case zqkK => first | exact rfl | assumption); (case zqh0 => assumption); (case zqkd => ktr_room); (case zqku => ktr_units); (intro x9 hro9 t9 h9 tk9 r9 e9 F9 N9; subst e9; (try dsimp only); (try k_fold))) | (refine' law_fitted_c _ _ _ _ _ _ _ ?zqhks ?zqhkl ?zqhx ?zqhxo ?zqhpt _ ?zqhmem _ _ _ _ _ _ _ _ _ _ _ _ _ _ _ _ _ _ _ _ _ _ ?zqk1 ?zqk2 ?zqk3 ?zqk4 ?zqk5 ?zqkK ?zqkd ?zqku ?_; (case zqk1 => k_asm); (case zqk2 => k_asm); (case zqk3 => k_asm); (case zqk4 => k_asm); (case zqk5 => k_asm); (case zqkK => first | exact rfl | assumption); (case zqhmem => k_mem); (case zqhks => assumption); (case zqhkl => assumption); (case zqhx => assumption); (case zqhxo => assumption); (case zqhpt => assumption); (case zqkd => ktr_room); (case zqku => ktr_units); refine ⟨fun hfv => ?zqfv1, fun ds9 hfv => ?zqfv2⟩; (case' zqfv1 => (refine Ret.use ?_; intro t9 h9 tk9 F9 N9; (try dsimp only); (try k_fold))); (case' zqfv2 => (intro vs9 n9 l9' h9 tk9 sa9 F9 N9 l9; (try k_lt l9); (try dsimp only); (try k_fold))))))) | (k_unfold; (try dsimp only)) | (k_end; wrow_close) | walk1 | (dsimp only; first | walk1 | (fail_if_success (fail_if_success (with_reducible show wpAny _ _ (call (Value.builtin "list.pop") (_ :: _)) _ _ _))) | (fail_if_success (fail_if_success (with_reducible show wpAny _ _ (call (Value.ref _) (_ :: _)) _ _ _)))) | (leave1; walk_say "STEP leave1"; try dsimp only) | fail "no step"))
          exact ⟨rfl, ⟨bg, tb, ra, rws, rvs, rn, [], [], ln, some (l, vs2, n2, ds2)⟩, u, _, _, rfl, by k_asm, ndrop (a := []) (b := [_]) lN, ⟨hrv, .nil, hbl, hrn, hlo, hro, hbo, hne1, hne2, hc, hlt, hR⟩, hR⟩
        | @cons x0 t0 vs3 ys3 hlv2 =>
          (try (with_reducible show wpAny _ _ _ _ _ _)); (try k_fold); (repeat' (first | ((fail_if_success (fail_if_success (with_reducible show wpAny _ _ (call (Value.builtin "list.pop") (_ :: _)) _ _ _))); (k_here; (with_reducible show wpAny _ _ (call (Value.builtin _) [Value.ref _, Value.int _ _]) _ _ _); k_dflt (refine' kl_popAt ?zqF ?zqN ?zqf ?zqk ?zqe ?zqU ?zqz ?_; (case zqF => k_asm); (case zqN => k_asm); (case zqU => k_upd); (case zqf => rfl); (case zqk => exact pop_k _ _); (case zqe => rfl); (case zqz => (rw [sizeLine_eq]; simp; first | assumption | omega))); kl_rest)) | ((fail_if_success (fail_if_success (with_reducible show wpAny _ _ (call (Value.ref _) (_ :: _)) _ _ _))); (k_here; k_dflt (first | (refine' law_row_c _ _ _ ?zqh0 _ _ _ _ _ _ _ _ _ _ _ _ _ _ _ _ _ _ _ _ _ _ _ ?zqk1 ?zqk2 ?zqk3 ?zqk4 ?zqk5 ?zqkK ?zqkd ?zqku ?_; (case zqk1 => k_asm); (case zqk2 => k_asm); (case zqk3 => k_asm); (case zqk4 => k_asm); (case zqk5 => k_asm); (case zqkK => first | exact rfl | assumption); (case zqh0 => assumption); (case zqkd => ktr_room); (case zqku => ktr_units); (intro x9 hro9 t9 h9 tk9 r9 e9 F9 N9; subst e9; (try dsimp only); (try k_fold))) | (refine' law_fitted_c _ _ _ _ _ _ _ ?zqhks ?zqhkl ?zqhx ?zqhxo ?zqhpt _ ?zqhmem _ _ _ _ _ _ _ _ _ _ _ _ _ _ _ _ _ _ _ _ _ _ ?zqk1 ?zqk2 ?zqk3 ?zqk4 ?zqk5 ?zqkK ?zqkd ?zqku ?_; (case zqk1 => k_asm); (case zqk2 => k_asm); (case zqk3 => k_asm); (case zqk4 => k_asm); (case zqk5 => k_asm); (case zqkK => first | exact rfl | assumption); (case zqhmem => k_mem); (case zqhks => assumption); (case zqhkl => assumption); (case zqhx => assumption); (case zqhxo => assumption); (case zqhpt => assumption); (case zqkd => ktr_room); (case zqku => ktr_units); refine ⟨fun hfv => ?zqfv1, fun ds9 hfv => ?zqfv2⟩; (case' zqfv1 => (refine Ret.use ?_; intro t9 h9 tk9 F9 N9; (try dsimp only); (try k_fold))); (case' zqfv2 => (intro vs9 n9 l9' h9 tk9 sa9 F9 N9 l9; (try k_lt l9); (try dsimp only); (try k_fold))))))) | (k_unfold; (try dsimp only)) | (k_end; wrow_close) | walk1 | (dsimp only; first | walk1 | (fail_if_success (fail_if_success (with_reducible show wpAny _ _ (call (Value.builtin "list.pop") (_ :: _)) _ _ _))) | (fail_if_success (fail_if_success (with_reducible show wpAny _ _ (call (Value.ref _) (_ :: _)) _ _ _)))) | (leave1; walk_say "STEP leave1"; try dsimp only) | fail "no step"))
          refine Stop.mk ?_
          rename (News _ _ _ _) => lN
          refine' ne_cons (reads_newData (ds := List.map PyData.str (x0 :: ys3)) ?a ?b) (reads_newData (ds := []) ?c .nil) ?d ?f ?_
          case a => exact News.isList lN (.tail _ (.tail _ (.tail _ (.head _))))
          case b => exact strs_carried (.cons _ _ hlv2)
          case c => exact News.isList lN (.head _)
          case d => exact shaped_strs (fun z hz => (hlo z hz).2.1)
          case f => exact (Mine.rm2 hu rfl : un + 3 + 64 < cLine)
          (try (with_reducible show wpAny _ _ _ _ _ _)); (try k_fold); (repeat' (first | ((fail_if_success (fail_if_success (with_reducible show wpAny _ _ (call (Value.builtin "list.pop") (_ :: _)) _ _ _))); (k_here; (with_reducible show wpAny _ _ (call (Value.builtin _) [Value.ref _, Value.int _ _]) _ _ _); k_dflt (refine' kl_popAt ?zqF ?zqN ?zqf ?zqk ?zqe ?zqU ?zqz ?_; (case zqF => k_asm); (case zqN => k_asm); (case zqU => k_upd); (case zqf => rfl); (case zqk => exact pop_k _ _); (case zqe => rfl); (case zqz => (rw [sizeLine_eq]; simp; first | assumption | omega))); kl_rest)) | ((fail_if_success (fail_if_success (with_reducible show wpAny _ _ (call (Value.ref _) (_ :: _)) _ _ _))); (k_here; k_dflt (first | (refine' law_row_c _ _ _ ?zqh0 _ _ _ _ _ _ _ _ _ _ _ _ _ _ _ _ _ _ _ _ _ _ _ ?zqk1 ?zqk2 ?zqk3 ?zqk4 ?zqk5 ?zqkK ?zqkd ?zqku ?_; (case zqk1 => k_asm); (case zqk2 => k_asm); (case zqk3 => k_asm); (case zqk4 => k_asm); (case zqk5 => k_asm); (case zqkK => first | exact rfl | assumption); (case zqh0 => assumption); (case zqkd => ktr_room); (case zqku => ktr_units); (intro x9 hro9 t9 h9 tk9 r9 e9 F9 N9; subst e9; (try dsimp only); (try k_fold))) | (refine' law_fitted_c _ _ _ _ _ _ _ ?zqhks ?zqhkl ?zqhx ?zqhxo ?zqhpt _ ?zqhmem _ _ _ _ _ _ _ _ _ _ _ _ _ _ _ _ _ _ _ _ _ _ ?zqk1 ?zqk2 ?zqk3 ?zqk4 ?zqk5 ?zqkK ?zqkd ?zqku ?_; (case zqk1 => k_asm); (case zqk2 => k_asm); (case zqk3 => k_asm); (case zqk4 => k_asm); (case zqk5 => k_asm); (case zqkK => first | exact rfl | assumption); (case zqhmem => k_mem); (case zqhks => assumption); (case zqhkl => assumption); (case zqhx => assumption); (case zqhxo => assumption); (case zqhpt => assumption); (case zqkd => ktr_room); (case zqku => ktr_units); refine ⟨fun hfv => ?zqfv1, fun ds9 hfv => ?zqfv2⟩; (case' zqfv1 => (refine Ret.use ?_; intro t9 h9 tk9 F9 N9; (try dsimp only); (try k_fold))); (case' zqfv2 => (intro vs9 n9 l9' h9 tk9 sa9 F9 N9 l9; (try k_lt l9); (try dsimp only); (try k_fold))))))) | (k_unfold; (try dsimp only)) | (k_end; wrow_close) | walk1 | (dsimp only; first | walk1 | (fail_if_success (fail_if_success (with_reducible show wpAny _ _ (call (Value.builtin "list.pop") (_ :: _)) _ _ _))) | (fail_if_success (fail_if_success (with_reducible show wpAny _ _ (call (Value.ref _) (_ :: _)) _ _ _)))) | (leave1; walk_say "STEP leave1"; try dsimp only) | fail "no step"))
          exact ⟨rfl, ⟨bg, tb, ra, rws, rvs, rn, x0 :: ys3, .str x0 t0 :: vs3, ln, some (l, vs2, n2, ds2)⟩, u, _, _, rfl, by k_asm, ndrop (a := []) (b := [_]) lN, ⟨hrv, .cons _ _ hlv2, hbl, hrn, hlo, hro, hbo, hne1, hne2, hc, hlt, hR⟩, hR⟩
      | none =>
        dsimp only [RfSt.led, RfSt.fv] at F1 N1
        dsimp only at hR
        cases hlv with
        | nil =>
          (try (with_reducible show wpAny _ _ _ _ _ _)); (try k_fold); (repeat' (first | ((fail_if_success (fail_if_success (with_reducible show wpAny _ _ (call (Value.builtin "list.pop") (_ :: _)) _ _ _))); (k_here; (with_reducible show wpAny _ _ (call (Value.builtin _) [Value.ref _, Value.int _ _]) _ _ _); k_dflt (refine' kl_popAt ?zqF ?zqN ?zqf ?zqk ?zqe ?zqU ?zqz ?_; (case zqF => k_asm); (case zqN => k_asm); (case zqU => k_upd); (case zqf => rfl); (case zqk => exact pop_k _ _); (case zqe => rfl); (case zqz => (rw [sizeLine_eq]; simp; first | assumption | omega))); kl_rest)) | ((fail_if_success (fail_if_success (with_reducible show wpAny _ _ (call (Value.ref _) (_ :: _)) _ _ _))); (k_here; k_dflt (first | (refine' law_row_c _ _ _ ?zqh0 _ _ _ _ _ _ _ _ _ _ _ _ _ _ _ _ _ _ _ _ _ _ _ ?zqk1 ?zqk2 ?zqk3 ?zqk4 ?zqk5 ?zqkK ?zqkd ?zqku ?_; (case zqk1 => k_asm); (case zqk2 => k_asm); (case zqk3 => k_asm); (case zqk4 => k_asm); (case zqk5 => k_asm); (case zqkK => first | exact rfl | assumption); (case zqh0 => assumption); (case zqkd => ktr_room); (case zqku => ktr_units); (intro x9 hro9 t9 h9 tk9 r9 e9 F9 N9; subst e9; (try dsimp only); (try k_fold))) | (refine' law_fitted_c _ _ _ _ _ _ _ ?zqhks ?zqhkl ?zqhx ?zqhxo ?zqhpt _ ?zqhmem _ _ _ _ _ _ _ _ _ _ _ _ _ _ _ _ _ _ _ _ _ _ ?zqk1 ?zqk2 ?zqk3 ?zqk4 ?zqk5 ?zqkK ?zqkd ?zqku ?_; (case zqk1 => k_asm); (case zqk2 => k_asm); (case zqk3 => k_asm); (case zqk4 => k_asm); (case zqk5 => k_asm); (case zqkK => first | exact rfl | assumption); (case zqhmem => k_mem); (case zqhks => assumption); (case zqhkl => assumption); (case zqhx => assumption); (case zqhxo => assumption); (case zqhpt => assumption); (case zqkd => ktr_room); (case zqku => ktr_units); refine ⟨fun hfv => ?zqfv1, fun ds9 hfv => ?zqfv2⟩; (case' zqfv1 => (refine Ret.use ?_; intro t9 h9 tk9 F9 N9; (try dsimp only); (try k_fold))); (case' zqfv2 => (intro vs9 n9 l9' h9 tk9 sa9 F9 N9 l9; (try k_lt l9); (try dsimp only); (try k_fold))))))) | (k_unfold; (try dsimp only)) | (k_end; wrow_close) | walk1 | (dsimp only; first | walk1 | (fail_if_success (fail_if_success (with_reducible show wpAny _ _ (call (Value.builtin "list.pop") (_ :: _)) _ _ _))) | (fail_if_success (fail_if_success (with_reducible show wpAny _ _ (call (Value.ref _) (_ :: _)) _ _ _)))) | (leave1; walk_say "STEP leave1"; try dsimp only) | fail "no step"))
          refine Stop.mk ?_
          rename (News _ _ _ _) => lN
          refine' ne_nil (reads_newData (ds := []) ?a .nil) (reads_newData (ds := []) ?c .nil) ?f ?_
          case a => exact News.isList lN (.tail _ (.tail _ (.head _)))
          case c => exact News.isList lN (.head _)
          case f => exact (Mine.rm2 hu rfl : un + 3 + 64 < cLine)
          (try (with_reducible show wpAny _ _ _ _ _ _)); (try k_fold); (repeat' (first | ((fail_if_success (fail_if_success (with_reducible show wpAny _ _ (call (Value.builtin "list.pop") (_ :: _)) _ _ _))); (k_here; (with_reducible show wpAny _ _ (call (Value.builtin _) [Value.ref _, Value.int _ _]) _ _ _); k_dflt (refine' kl_popAt ?zqF ?zqN ?zqf ?zqk ?zqe ?zqU ?zqz ?_; (case zqF => k_asm); (case zqN => k_asm); (case zqU => k_upd); (case zqf => rfl); (case zqk => exact pop_k _ _); (case zqe => rfl); (case zqz => (rw [sizeLine_eq]; simp; first | assumption | omega))); kl_rest)) | ((fail_if_success (fail_if_success (with_reducible show wpAny _ _ (call (Value.ref _) (_ :: _)) _ _ _))); (k_here; k_dflt (first | (refine' law_row_c _ _ _ ?zqh0 _ _ _ _ _ _ _ _ _ _ _ _ _ _ _ _ _ _ _ _ _ _ _ ?zqk1 ?zqk2 ?zqk3 ?zqk4 ?zqk5 ?zqkK ?zqkd ?zqku ?_; (case zqk1 => k_asm); (case zqk2 => k_asm); (case zqk3 => k_asm); (case zqk4 => k_asm); (case zqk5 => k_asm); (case zqkK => first | exact rfl | assumption); (case zqh0 => assumption); (case zqkd => ktr_room); (case zqku => ktr_units); (intro x9 hro9 t9 h9 tk9 r9 e9 F9 N9; subst e9; (try dsimp only); (try k_fold))) | (refine' law_fitted_c _ _ _ _ _ _ _ ?zqhks ?zqhkl ?zqhx ?zqhxo ?zqhpt _ ?zqhmem _ _ _ _ _ _ _ _ _ _ _ _ _ _ _ _ _ _ _ _ _ _ ?zqk1 ?zqk2 ?zqk3 ?zqk4 ?zqk5 ?zqkK ?zqkd ?zqku ?_; (case zqk1 => k_asm); (case zqk2 => k_asm); (case zqk3 => k_asm); (case zqk4 => k_asm); (case zqk5 => k_asm); (case zqkK => first | exact rfl | assumption); (case zqhmem => k_mem); (case zqhks => assumption); (case zqhkl => assumption); (case zqhx => assumption); (case zqhxo => assumption); (case zqhpt => assumption); (case zqkd => ktr_room); (case zqku => ktr_units); refine ⟨fun hfv => ?zqfv1, fun ds9 hfv => ?zqfv2⟩; (case' zqfv1 => (refine Ret.use ?_; intro t9 h9 tk9 F9 N9; (try dsimp only); (try k_fold))); (case' zqfv2 => (intro vs9 n9 l9' h9 tk9 sa9 F9 N9 l9; (try k_lt l9); (try dsimp only); (try k_fold))))))) | (k_unfold; (try dsimp only)) | (k_end; wrow_close) | walk1 | (dsimp only; first | walk1 | (fail_if_success (fail_if_success (with_reducible show wpAny _ _ (call (Value.builtin "list.pop") (_ :: _)) _ _ _))) | (fail_if_success (fail_if_success (with_reducible show wpAny _ _ (call (Value.ref _) (_ :: _)) _ _ _)))) | (leave1; walk_say "STEP leave1"; try dsimp only) | fail "no step"))
          exact ⟨rfl, ⟨bg, tb, ra, rws, rvs, rn, [], [], ln, none⟩, u, _, _, rfl, by k_asm, ndrop (a := []) (b := [_]) lN, ⟨hrv, .nil, hbl, hrn, hlo, hro, hbo, hne1, hne2, hR⟩, hR⟩
        | @cons x0 t0 vs3 ys3 hlv2 =>
          (try (with_reducible show wpAny _ _ _ _ _ _)); (try k_fold); (repeat' (first | ((fail_if_success (fail_if_success (with_reducible show wpAny _ _ (call (Value.builtin "list.pop") (_ :: _)) _ _ _))); (k_here; (with_reducible show wpAny _ _ (call (Value.builtin _) [Value.ref _, Value.int _ _]) _ _ _); k_dflt (refine' kl_popAt ?zqF ?zqN ?zqf ?zqk ?zqe ?zqU ?zqz ?_; (case zqF => k_asm); (case zqN => k_asm); (case zqU => k_upd); (case zqf => rfl); (case zqk => exact pop_k _ _); (case zqe => rfl); (case zqz => (rw [sizeLine_eq]; simp; first | assumption | omega))); kl_rest)) | ((fail_if_success (fail_if_success (with_reducible show wpAny _ _ (call (Value.ref _) (_ :: _)) _ _ _))); (k_here; k_dflt (first | (refine' law_row_c _ _ _ ?zqh0 _ _ _ _ _ _ _ _ _ _ _ _ _ _ _ _ _ _ _ _ _ _ _ ?zqk1 ?zqk2 ?zqk3 ?zqk4 ?zqk5 ?zqkK ?zqkd ?zqku ?_; (case zqk1 => k_asm); (case zqk2 => k_asm); (case zqk3 => k_asm); (case zqk4 => k_asm); (case zqk5 => k_asm); (case zqkK => first | exact rfl | assumption); (case zqh0 => assumption); (case zqkd => ktr_room); (case zqku => ktr_units); (intro x9 hro9 t9 h9 tk9 r9 e9 F9 N9; subst e9; (try dsimp only); (try k_fold))) | (refine' law_fitted_c _ _ _ _ _ _ _ ?zqhks ?zqhkl ?zqhx ?zqhxo ?zqhpt _ ?zqhmem _ _ _ _ _ _ _ _ _ _ _ _ _ _ _ _ _ _ _ _ _ _ ?zqk1 ?zqk2 ?zqk3 ?zqk4 ?zqk5 ?zqkK ?zqkd ?zqku ?_; (case zqk1 => k_asm); (case zqk2 => k_asm); (case zqk3 => k_asm); (case zqk4 => k_asm); (case zqk5 => k_asm); (case zqkK => first | exact rfl | assumption); (case zqhmem => k_mem); (case zqhks => assumption); (case zqhkl => assumption); (case zqhx => assumption); (case zqhxo => assumption); (case zqhpt => assumption); (case zqkd => ktr_room); (case zqku => ktr_units); refine ⟨fun hfv => ?zqfv1, fun ds9 hfv => ?zqfv2⟩; (case' zqfv1 => (refine Ret.use ?_; intro t9 h9 tk9 F9 N9; (try dsimp only); (try k_fold))); (case' zqfv2 => (intro vs9 n9 l9' h9 tk9 sa9 F9 N9 l9; (try k_lt l9); (try dsimp only); (try k_fold))))))) | (k_unfold; (try dsimp only)) | (k_end; wrow_close) | walk1 | (dsimp only; first | walk1 | (fail_if_success (fail_if_success (with_reducible show wpAny _ _ (call (Value.builtin "list.pop") (_ :: _)) _ _ _))) | (fail_if_success (fail_if_success (with_reducible show wpAny _ _ (call (Value.ref _) (_ :: _)) _ _ _)))) | (leave1; walk_say "STEP leave1"; try dsimp only) | fail "no step"))
          refine Stop.mk ?_
          rename (News _ _ _ _) => lN
          refine' ne_cons (reads_newData (ds := List.map PyData.str (x0 :: ys3)) ?a ?b) (reads_newData (ds := []) ?c .nil) ?d ?f ?_
          case a => exact News.isList lN (.tail _ (.tail _ (.head _)))
          case b => exact strs_carried (.cons _ _ hlv2)
          case c => exact News.isList lN (.head _)
          case d => exact shaped_strs (fun z hz => (hlo z hz).2.1)
          case f => exact (Mine.rm2 hu rfl : un + 3 + 64 < cLine)
          have hrn2 : rws.length + 2 * (ys3.length + 1) ≤ 20 := by simpa using hrn
          have hv3 : vs3.length ≤ 16777215 := Nat.le_trans (Nat.le_of_eq hlv2.length) (q11 hrn2 rfl)
          obtain ⟨hx1, hx2, hx3⟩ := hlo x0 (List.Mem.head _)
          have hpt := parted_same hx3
          have hvl := hlv2.length
          (try (with_reducible show wpAny _ _ _ _ _ _)); (try k_fold); (repeat' (first | ((fail_if_success (fail_if_success (with_reducible show wpAny _ _ (call (Value.builtin "list.pop") (_ :: _)) _ _ _))); (k_here; (with_reducible show wpAny _ _ (call (Value.builtin _) [Value.ref _, Value.int _ _]) _ _ _); k_dflt (refine' kl_popAt ?zqF ?zqN ?zqf ?zqk ?zqe ?zqU ?zqz ?_; (case zqF => k_asm); (case zqN => k_asm); (case zqU => k_upd); (case zqf => rfl); (case zqk => exact pop_k _ _); (case zqe => rfl); (case zqz => (rw [sizeLine_eq]; simp; first | assumption | omega))); kl_rest)) | ((fail_if_success (fail_if_success (with_reducible show wpAny _ _ (call (Value.ref _) (_ :: _)) _ _ _))); (k_here; k_dflt (first | (refine' law_row_c _ _ _ ?zqh0 _ _ _ _ _ _ _ _ _ _ _ _ _ _ _ _ _ _ _ _ _ _ _ ?zqk1 ?zqk2 ?zqk3 ?zqk4 ?zqk5 ?zqkK ?zqkd ?zqku ?_; (case zqk1 => k_asm); (case zqk2 => k_asm); (case zqk3 => k_asm); (case zqk4 => k_asm); (case zqk5 => k_asm); (case zqkK => first | exact rfl | assumption); (case zqh0 => assumption); (case zqkd => ktr_room); (case zqku => ktr_units); (intro x9 hro9 t9 h9 tk9 r9 e9 F9 N9; subst e9; (try dsimp only); (try k_fold))) | (refine' law_fitted_c _ _ _ _ _ _ _ ?zqhks ?zqhkl ?zqhx ?zqhxo ?zqhpt _ ?zqhmem _ _ _ _ _ _ _ _ _ _ _ _ _ _ _ _ _ _ _ _ _ _ ?zqk1 ?zqk2 ?zqk3 ?zqk4 ?zqk5 ?zqkK ?zqkd ?zqku ?_; (case zqk1 => k_asm); (case zqk2 => k_asm); (case zqk3 => k_asm); (case zqk4 => k_asm); (case zqk5 => k_asm); (case zqkK => first | exact rfl | assumption); (case zqhmem => k_mem); (case zqhks => assumption); (case zqhkl => assumption); (case zqhx => assumption); (case zqhxo => assumption); (case zqhpt => assumption); (case zqkd => ktr_room); (case zqku => ktr_units); refine ⟨fun hfv => ?zqfv1, fun ds9 hfv => ?zqfv2⟩; (case' zqfv1 => (refine Ret.use ?_; intro t9 h9 tk9 F9 N9; (try dsimp only); (try k_fold))); (case' zqfv2 => (intro vs9 n9 l9' h9 tk9 sa9 F9 N9 l9; (try k_lt l9); (try dsimp only); (try k_fold))))))) | (k_unfold; (try dsimp only)) | (k_end; wrow_close) | walk1 | (dsimp only; first | walk1 | (fail_if_success (fail_if_success (with_reducible show wpAny _ _ (call (Value.builtin "list.pop") (_ :: _)) _ _ _))) | (fail_if_success (fail_if_success (with_reducible show wpAny _ _ (call (Value.ref _) (_ :: _)) _ _ _)))) | (leave1; walk_say "STEP leave1"; try dsimp only) | fail "no step"))
          refine Stop.mk ?_
          rename (Fr _ _ _ _) => lF
          have lN2 := ndrop (a := []) (b := [_]) lN
          simp only [List.nil_append] at lN2
          clear lN
          refine' ev_prompt (fun z v => z = y ∧ ∃ t, v = .str y t) ?F ?N ?sub ?_
          case F => exact lF
          case N => exact lN2
          case sub =>
            have so : StopOff := .mk
            cases hpv with
            | no =>
              (try (with_reducible show wpAny _ _ _ _ _ _)); (try k_fold); (repeat' (first | ((fail_if_success (fail_if_success (with_reducible show wpAny _ _ (call (Value.builtin "list.pop") (_ :: _)) _ _ _))); (k_here; (with_reducible show wpAny _ _ (call (Value.builtin _) [Value.ref _, Value.int _ _]) _ _ _); k_dflt (refine' kl_popAt ?zqF ?zqN ?zqf ?zqk ?zqe ?zqU ?zqz ?_; (case zqF => k_asm); (case zqN => k_asm); (case zqU => k_upd); (case zqf => rfl); (case zqk => exact pop_k _ _); (case zqe => rfl); (case zqz => (rw [sizeLine_eq]; simp; first | assumption | omega))); kl_rest)) | ((fail_if_success (fail_if_success (with_reducible show wpAny _ _ (call (Value.ref _) (_ :: _)) _ _ _))); (k_here; k_dflt (first | (refine' law_row_c _ _ _ ?zqh0 _ _ _ _ _ _ _ _ _ _ _ _ _ _ _ _ _ _ _ _ _ _ _ ?zqk1 ?zqk2 ?zqk3 ?zqk4 ?zqk5 ?zqkK ?zqkd ?zqku ?_; (case zqk1 => k_asm); (case zqk2 => k_asm); (case zqk3 => k_asm); (case zqk4 => k_asm); (case zqk5 => k_asm); (case zqkK => first | exact rfl | assumption); (case zqh0 => assumption); (case zqkd => ktr_room); (case zqku => ktr_units); (intro x9 hro9 t9 h9 tk9 r9 e9 F9 N9; subst e9; (try dsimp only); (try k_fold))) | (refine' law_fitted_c _ _ _ _ _ _ _ ?zqhks ?zqhkl ?zqhx ?zqhxo ?zqhpt _ ?zqhmem _ _ _ _ _ _ _ _ _ _ _ _ _ _ _ _ _ _ _ _ _ _ ?zqk1 ?zqk2 ?zqk3 ?zqk4 ?zqk5 ?zqkK ?zqkd ?zqku ?_; (case zqk1 => k_asm); (case zqk2 => k_asm); (case zqk3 => k_asm); (case zqk4 => k_asm); (case zqk5 => k_asm); (case zqkK => first | exact rfl | assumption); (case zqhmem => k_mem); (case zqhks => assumption); (case zqhkl => assumption); (case zqhx => assumption); (case zqhxo => assumption); (case zqhpt => assumption); (case zqkd => ktr_room); (case zqku => ktr_units); refine ⟨fun hfv => ?zqfv1, fun ds9 hfv => ?zqfv2⟩; (case' zqfv1 => (refine Ret.use ?_; intro t9 h9 tk9 F9 N9; (try dsimp only); (try k_fold))); (case' zqfv2 => (intro vs9 n9 l9' h9 tk9 sa9 F9 N9 l9; (try k_lt l9); (try dsimp only); (try k_fold))))))) | (k_unfold; (try dsimp only)) | (k_end; wrow_close) | walk1 | (dsimp only; first | walk1 | (fail_if_success (fail_if_success (with_reducible show wpAny _ _ (call (Value.builtin "list.pop") (_ :: _)) _ _ _))) | (fail_if_success (fail_if_success (with_reducible show wpAny _ _ (call (Value.ref _) (_ :: _)) _ _ _)))) | (leave1; walk_say "STEP leave1"; try dsimp only) | fail "no step"))
              exact ⟨_, _, _, rfl, ⟨rfl, _, rfl⟩, by k_asm, by k_asm⟩
            | text y9 t9 hh1 hh2 =>
              (try (with_reducible show wpAny _ _ _ _ _ _)); (try k_fold); (repeat' (first | ((fail_if_success (fail_if_success (with_reducible show wpAny _ _ (call (Value.builtin "list.pop") (_ :: _)) _ _ _))); (k_here; (with_reducible show wpAny _ _ (call (Value.builtin _) [Value.ref _, Value.int _ _]) _ _ _); k_dflt (refine' kl_popAt ?zqF ?zqN ?zqf ?zqk ?zqe ?zqU ?zqz ?_; (case zqF => k_asm); (case zqN => k_asm); (case zqU => k_upd); (case zqf => rfl); (case zqk => exact pop_k _ _); (case zqe => rfl); (case zqz => (rw [sizeLine_eq]; simp; first | assumption | omega))); kl_rest)) | ((fail_if_success (fail_if_success (with_reducible show wpAny _ _ (call (Value.ref _) (_ :: _)) _ _ _))); (k_here; k_dflt (first | (refine' law_row_c _ _ _ ?zqh0 _ _ _ _ _ _ _ _ _ _ _ _ _ _ _ _ _ _ _ _ _ _ _ ?zqk1 ?zqk2 ?zqk3 ?zqk4 ?zqk5 ?zqkK ?zqkd ?zqku ?_; (case zqk1 => k_asm); (case zqk2 => k_asm); (case zqk3 => k_asm); (case zqk4 => k_asm); (case zqk5 => k_asm); (case zqkK => first | exact rfl | assumption); (case zqh0 => assumption); (case zqkd => ktr_room); (case zqku => ktr_units); (intro x9 hro9 t9 h9 tk9 r9 e9 F9 N9; subst e9; (try dsimp only); (try k_fold))) | (refine' law_fitted_c _ _ _ _ _ _ _ ?zqhks ?zqhkl ?zqhx ?zqhxo ?zqhpt _ ?zqhmem _ _ _ _ _ _ _ _ _ _ _ _ _ _ _ _ _ _ _ _ _ _ ?zqk1 ?zqk2 ?zqk3 ?zqk4 ?zqk5 ?zqkK ?zqkd ?zqku ?_; (case zqk1 => k_asm); (case zqk2 => k_asm); (case zqk3 => k_asm); (case zqk4 => k_asm); (case zqk5 => k_asm); (case zqkK => first | exact rfl | assumption); (case zqhmem => k_mem); (case zqhks => assumption); (case zqhkl => assumption); (case zqhx => assumption); (case zqhxo => assumption); (case zqhpt => assumption); (case zqkd => ktr_room); (case zqku => ktr_units); refine ⟨fun hfv => ?zqfv1, fun ds9 hfv => ?zqfv2⟩; (case' zqfv1 => (refine Ret.use ?_; intro t9 h9 tk9 F9 N9; (try dsimp only); (try k_fold))); (case' zqfv2 => (intro vs9 n9 l9' h9 tk9 sa9 F9 N9 l9; (try k_lt l9); (try dsimp only); (try k_fold))))))) | (k_unfold; (try dsimp only)) | (k_end; wrow_close) | walk1 | (dsimp only; first | walk1 | (fail_if_success (fail_if_success (with_reducible show wpAny _ _ (call (Value.builtin "list.pop") (_ :: _)) _ _ _))) | (fail_if_success (fail_if_success (with_reducible show wpAny _ _ (call (Value.ref _) (_ :: _)) _ _ _)))) | (leave1; walk_say "STEP leave1"; try dsimp only) | fail "no step"))
              exact ⟨_, _, _, rfl, ⟨rfl, _, rfl⟩, by k_asm, by k_asm⟩
          rintro _ _ hA1 tkA1 ⟨-, ty, rfl⟩ FA1 NA1
          clear lF lN2
          (try (with_reducible show wpAny _ _ _ _ _ _)); (try k_fold); (repeat' (first | ((fail_if_success (fail_if_success (with_reducible show wpAny _ _ (call (Value.builtin "list.pop") (_ :: _)) _ _ _))); (k_here; (with_reducible show wpAny _ _ (call (Value.builtin _) [Value.ref _, Value.int _ _]) _ _ _); k_dflt (refine' kl_popAt ?zqF ?zqN ?zqf ?zqk ?zqe ?zqU ?zqz ?_; (case zqF => k_asm); (case zqN => k_asm); (case zqU => k_upd); (case zqf => rfl); (case zqk => exact pop_k _ _); (case zqe => rfl); (case zqz => (rw [sizeLine_eq]; simp; first | assumption | omega))); kl_rest)) | ((fail_if_success (fail_if_success (with_reducible show wpAny _ _ (call (Value.ref _) (_ :: _)) _ _ _))); (k_here; k_dflt (first | (refine' law_row_c _ _ _ ?zqh0 _ _ _ _ _ _ _ _ _ _ _ _ _ _ _ _ _ _ _ _ _ _ _ ?zqk1 ?zqk2 ?zqk3 ?zqk4 ?zqk5 ?zqkK ?zqkd ?zqku ?_; (case zqk1 => k_asm); (case zqk2 => k_asm); (case zqk3 => k_asm); (case zqk4 => k_asm); (case zqk5 => k_asm); (case zqkK => first | exact rfl | assumption); (case zqh0 => assumption); (case zqkd => ktr_room); (case zqku => ktr_units); (intro x9 hro9 t9 h9 tk9 r9 e9 F9 N9; subst e9; (try dsimp only); (try k_fold))) | (refine' law_fitted_c _ _ _ _ _ _ _ ?zqhks ?zqhkl ?zqhx ?zqhxo ?zqhpt _ ?zqhmem _ _ _ _ _ _ _ _ _ _ _ _ _ _ _ _ _ _ _ _ _ _ ?zqk1 ?zqk2 ?zqk3 ?zqk4 ?zqk5 ?zqkK ?zqkd ?zqku ?_; (case zqk1 => k_asm); (case zqk2 => k_asm); (case zqk3 => k_asm); (case zqk4 => k_asm); (case zqk5 => k_asm); (case zqkK => first | exact rfl | assumption); (case zqhmem => k_mem); (case zqhks => assumption); (case zqhkl => assumption); (case zqhx => assumption); (case zqhxo => assumption); (case zqhpt => assumption); (case zqkd => ktr_room); (case zqku => ktr_units); refine ⟨fun hfv => ?zqfv1, fun ds9 hfv => ?zqfv2⟩; (case' zqfv1 => (refine Ret.use ?_; intro t9 h9 tk9 F9 N9; (try dsimp only); (try k_fold))); (case' zqfv2 => (intro vs9 n9 l9' h9 tk9 sa9 F9 N9 l9; (try k_lt l9); (try dsimp only); (try k_fold))))))) | (k_unfold; (try dsimp only)) | (k_end; wrow_close) | walk1 | (dsimp only; first | walk1 | (fail_if_success (fail_if_success (with_reducible show wpAny _ _ (call (Value.builtin "list.pop") (_ :: _)) _ _ _))) | (fail_if_success (fail_if_success (with_reducible show wpAny _ _ (call (Value.ref _) (_ :: _)) _ _ _)))) | (leave1; walk_say "STEP leave1"; try dsimp only) | fail "no step"))
          refine Stop.mk ?_
          rename (Fr _ _ _ _) => lF
          rename (News _ _ _ _) => lN
          refine' ev_prompt (fun z v => ∃ t, v = .str (if bm = true then Str.ofString "? " else Str.ofString "") t) ?F ?N ?sub ?_
          case F => exact lF
          case N => exact lN
          case sub =>
            have so : StopOff := .mk
            cases bm
            all_goals
              (try (with_reducible show wpAny _ _ _ _ _ _)); (try k_fold); (repeat' (first | ((fail_if_success (fail_if_success (with_reducible show wpAny _ _ (call (Value.builtin "list.pop") (_ :: _)) _ _ _))); (k_here; (with_reducible show wpAny _ _ (call (Value.builtin _) [Value.ref _, Value.int _ _]) _ _ _); k_dflt (refine' kl_popAt ?zqF ?zqN ?zqf ?zqk ?zqe ?zqU ?zqz ?_; (case zqF => k_asm); (case zqN => k_asm); (case zqU => k_upd); (case zqf => rfl); (case zqk => exact pop_k _ _); (case zqe => rfl); (case zqz => (rw [sizeLine_eq]; simp; first | assumption | omega))); kl_rest)) | ((fail_if_success (fail_if_success (with_reducible show wpAny _ _ (call (Value.ref _) (_ :: _)) _ _ _))); (k_here; k_dflt (first | (refine' law_row_c _ _ _ ?zqh0 _ _ _ _ _ _ _ _ _ _ _ _ _ _ _ _ _ _ _ _ _ _ _ ?zqk1 ?zqk2 ?zqk3 ?zqk4 ?zqk5 ?zqkK ?zqkd ?zqku ?_; (case zqk1 => k_asm); (case zqk2 => k_asm); (case zqk3 => k_asm); (case zqk4 => k_asm); (case zqk5 => k_asm); (case zqkK => first | exact rfl | assumption); (case zqh0 => assumption); (case zqkd => ktr_room); (case zqku => ktr_units); (intro x9 hro9 t9 h9 tk9 r9 e9 F9 N9; subst e9; (try dsimp only); (try k_fold))) | (refine' law_fitted_c _ _ _ _ _ _ _ ?zqhks ?zqhkl ?zqhx ?zqhxo ?zqhpt _ ?zqhmem _ _ _ _ _ _ _ _ _ _ _ _ _ _ _ _ _ _ _ _ _ _ ?zqk1 ?zqk2 ?zqk3 ?zqk4 ?zqk5 ?zqkK ?zqkd ?zqku ?_; (case zqk1 => k_asm); (case zqk2 => k_asm); (case zqk3 => k_asm); (case zqk4 => k_asm); (case zqk5 => k_asm); (case zqkK => first | exact rfl | assumption); (case zqhmem => k_mem); (case zqhks => assumption); (case zqhkl => assumption); (case zqhx => assumption); (case zqhxo => assumption); (case zqhpt => assumption); (case zqkd => ktr_room); (case zqku => ktr_units); refine ⟨fun hfv => ?zqfv1, fun ds9 hfv => ?zqfv2⟩; (case' zqfv1 => (refine Ret.use ?_; intro t9 h9 tk9 F9 N9; (try dsimp only); (try k_fold))); (case' zqfv2 => (intro vs9 n9 l9' h9 tk9 sa9 F9 N9 l9; (try k_lt l9); (try dsimp only); (try k_fold))))))) | (k_unfold; (try dsimp only)) | (k_end; wrow_close) | walk1 | (dsimp only; first | walk1 | (fail_if_success (fail_if_success (with_reducible show wpAny _ _ (call (Value.builtin "list.pop") (_ :: _)) _ _ _))) | (fail_if_success (fail_if_success (with_reducible show wpAny _ _ (call (Value.ref _) (_ :: _)) _ _ _)))) | (leave1; walk_say "STEP leave1"; try dsimp only) | fail "no step"))
              exact ⟨Str.ofString "", _, _, rfl, ⟨_, rfl⟩, by k_asm, by k_asm⟩
          rintro _ _ hA2 tkA2 ⟨tb2, rfl⟩ FA2 NA2
          clear lF lN
          have hprl : (if bm = true then Str.ofString "? " else Str.ofString "").length ≤ 2 := by cases bm <;> decide
          (try (with_reducible show wpAny _ _ _ _ _ _)); (try k_fold); (repeat' (first | ((fail_if_success (fail_if_success (with_reducible show wpAny _ _ (call (Value.builtin "list.pop") (_ :: _)) _ _ _))); (k_here; (with_reducible show wpAny _ _ (call (Value.builtin _) [Value.ref _, Value.int _ _]) _ _ _); k_dflt (refine' kl_popAt ?zqF ?zqN ?zqf ?zqk ?zqe ?zqU ?zqz ?_; (case zqF => k_asm); (case zqN => k_asm); (case zqU => k_upd); (case zqf => rfl); (case zqk => exact pop_k _ _); (case zqe => rfl); (case zqz => (rw [sizeLine_eq]; simp; first | assumption | omega))); kl_rest)) | ((fail_if_success (fail_if_success (with_reducible show wpAny _ _ (call (Value.ref _) (_ :: _)) _ _ _))); (k_here; k_dflt (first | (refine' law_row_c _ _ _ ?zqh0 _ _ _ _ _ _ _ _ _ _ _ _ _ _ _ _ _ _ _ _ _ _ _ ?zqk1 ?zqk2 ?zqk3 ?zqk4 ?zqk5 ?zqkK ?zqkd ?zqku ?_; (case zqk1 => k_asm); (case zqk2 => k_asm); (case zqk3 => k_asm); (case zqk4 => k_asm); (case zqk5 => k_asm); (case zqkK => first | exact rfl | assumption); (case zqh0 => assumption); (case zqkd => ktr_room); (case zqku => ktr_units); (intro x9 hro9 t9 h9 tk9 r9 e9 F9 N9; subst e9; (try dsimp only); (try k_fold))) | (refine' law_fitted_c _ _ _ _ _ _ _ ?zqhks ?zqhkl ?zqhx ?zqhxo ?zqhpt _ ?zqhmem _ _ _ _ _ _ _ _ _ _ _ _ _ _ _ _ _ _ _ _ _ _ ?zqk1 ?zqk2 ?zqk3 ?zqk4 ?zqk5 ?zqkK ?zqkd ?zqku ?_; (case zqk1 => k_asm); (case zqk2 => k_asm); (case zqk3 => k_asm); (case zqk4 => k_asm); (case zqk5 => k_asm); (case zqkK => first | exact rfl | assumption); (case zqhmem => k_mem); (case zqhks => assumption); (case zqhkl => assumption); (case zqhx => assumption); (case zqhxo => assumption); (case zqhpt => assumption); (case zqkd => ktr_room); (case zqku => ktr_units); refine ⟨fun hfv => ?zqfv1, fun ds9 hfv => ?zqfv2⟩; (case' zqfv1 => (refine Ret.use ?_; intro t9 h9 tk9 F9 N9; (try dsimp only); (try k_fold))); (case' zqfv2 => (intro vs9 n9 l9' h9 tk9 sa9 F9 N9 l9; (try k_lt l9); (try dsimp only); (try k_fold))))))) | (k_unfold; (try dsimp only)) | (k_end; wrow_close) | walk1 | (dsimp only; first | walk1 | (fail_if_success (fail_if_success (with_reducible show wpAny _ _ (call (Value.builtin "list.pop") (_ :: _)) _ _ _))) | (fail_if_success (fail_if_success (with_reducible show wpAny _ _ (call (Value.ref _) (_ :: _)) _ _ _)))) | (leave1; walk_say "STEP leave1"; try dsimp only) | fail "no step"))
          refine Stop.mk ?_
          rename (Fr _ _ _ _) => lF
          rename (News _ _ _ _) => lN
          refine' ev_list (wrote (pRow bg y bm) []) ?F ?N ?sub ?_
          case F => exact lF
          case N => exact lN
          case sub =>
            have so : StopOff := .mk
            (try (with_reducible show wpAny _ _ _ _ _ _)); (try k_fold); (repeat' (first | ((fail_if_success (fail_if_success (with_reducible show wpAny _ _ (call (Value.builtin "list.pop") (_ :: _)) _ _ _))); (k_here; (with_reducible show wpAny _ _ (call (Value.builtin _) [Value.ref _, Value.int _ _]) _ _ _); k_dflt (refine' kl_popAt ?zqF ?zqN ?zqf ?zqk ?zqe ?zqU ?zqz ?_; (case zqF => k_asm); (case zqN => k_asm); (case zqU => k_upd); (case zqf => rfl); (case zqk => exact pop_k _ _); (case zqe => rfl); (case zqz => (rw [sizeLine_eq]; simp; first | assumption | omega))); kl_rest)) | ((fail_if_success (fail_if_success (with_reducible show wpAny _ _ (call (Value.ref _) (_ :: _)) _ _ _))); (k_here; k_dflt (first | (refine' law_row_c _ _ _ ?zqh0 _ _ _ _ _ _ _ _ _ _ _ _ _ _ _ _ _ _ _ _ _ _ _ ?zqk1 ?zqk2 ?zqk3 ?zqk4 ?zqk5 ?zqkK ?zqkd ?zqku ?_; (case zqk1 => k_asm); (case zqk2 => k_asm); (case zqk3 => k_asm); (case zqk4 => k_asm); (case zqk5 => k_asm); (case zqkK => first | exact rfl | assumption); (case zqh0 => assumption); (case zqkd => ktr_room); (case zqku => ktr_units); (intro x9 hro9 t9 h9 tk9 r9 e9 F9 N9; subst e9; (try dsimp only); (try k_fold))) | (refine' law_fitted_c _ _ _ _ _ _ _ ?zqhks ?zqhkl ?zqhx ?zqhxo ?zqhpt _ ?zqhmem _ _ _ _ _ _ _ _ _ _ _ _ _ _ _ _ _ _ _ _ _ _ ?zqk1 ?zqk2 ?zqk3 ?zqk4 ?zqk5 ?zqkK ?zqkd ?zqku ?_; (case zqk1 => k_asm); (case zqk2 => k_asm); (case zqk3 => k_asm); (case zqk4 => k_asm); (case zqk5 => k_asm); (case zqkK => first | exact rfl | assumption); (case zqhmem => k_mem); (case zqhks => assumption); (case zqhkl => assumption); (case zqhx => assumption); (case zqhxo => assumption); (case zqhpt => assumption); (case zqkd => ktr_room); (case zqku => ktr_units); refine ⟨fun hfv => ?zqfv1, fun ds9 hfv => ?zqfv2⟩; (case' zqfv1 => (refine Ret.use ?_; intro t9 h9 tk9 F9 N9; (try dsimp only); (try k_fold))); (case' zqfv2 => (intro vs9 n9 l9' h9 tk9 sa9 F9 N9 l9; (try k_lt l9); (try dsimp only); (try k_fold))))))) | (k_unfold; (try dsimp only)) | (k_end; wrow_close) | walk1 | (dsimp only; first | walk1 | (fail_if_success (fail_if_success (with_reducible show wpAny _ _ (call (Value.builtin "list.pop") (_ :: _)) _ _ _))) | (fail_if_success (fail_if_success (with_reducible show wpAny _ _ (call (Value.ref _) (_ :: _)) _ _ _)))) | (leave1; walk_say "STEP leave1"; try dsimp only) | fail "no step"))
            · rename (_ != _) = true => hb
              rename (@LT.lt Nat _ ra _ ∧ _) => hl9
              exact ⟨_, [_], _, _, _, rfl, rfl, Eq.mp (congrArg (StrsAre _) (wrote_f (os := []) (neT hb)).symm) (.cons _ _ .nil), hl9, by k_asm, by k_asm⟩
            · rename (_ != _) = false => hb
              rename (@LT.lt Nat _ ra _ ∧ _) => hl9
              exact ⟨_, [], _, _, _, rfl, rfl, Eq.mp (congrArg (StrsAre _) (wrote_t (os := []) (beq_iff_eq.mpr (neF hb))).symm) .nil, hl9, by k_asm, by k_asm⟩
          intro wl wvs wn hA3 tkA3 hws hwlt FA3 NA3
          clear lF lN
          dsimp only [AllLt] at hwlt
          (try (with_reducible show wpAny _ _ _ _ _ _)); (try k_fold); (repeat' (first | ((fail_if_success (fail_if_success (with_reducible show wpAny _ _ (call (Value.builtin "list.pop") (_ :: _)) _ _ _))); (k_here; (with_reducible show wpAny _ _ (call (Value.builtin _) [Value.ref _, Value.int _ _]) _ _ _); k_dflt (refine' kl_popAt ?zqF ?zqN ?zqf ?zqk ?zqe ?zqU ?zqz ?_; (case zqF => k_asm); (case zqN => k_asm); (case zqU => k_upd); (case zqf => rfl); (case zqk => exact pop_k _ _); (case zqe => rfl); (case zqz => (rw [sizeLine_eq]; simp; first | assumption | omega))); kl_rest)) | ((fail_if_success (fail_if_success (with_reducible show wpAny _ _ (call (Value.ref _) (_ :: _)) _ _ _))); (k_here; k_dflt (first | (refine' law_row_c _ _ _ ?zqh0 _ _ _ _ _ _ _ _ _ _ _ _ _ _ _ _ _ _ _ _ _ _ _ ?zqk1 ?zqk2 ?zqk3 ?zqk4 ?zqk5 ?zqkK ?zqkd ?zqku ?_; (case zqk1 => k_asm); (case zqk2 => k_asm); (case zqk3 => k_asm); (case zqk4 => k_asm); (case zqk5 => k_asm); (case zqkK => first | exact rfl | assumption); (case zqh0 => assumption); (case zqkd => ktr_room); (case zqku => ktr_units); (intro x9 hro9 t9 h9 tk9 r9 e9 F9 N9; subst e9; (try dsimp only); (try k_fold))) | (refine' law_fitted_c _ _ _ _ _ _ _ ?zqhks ?zqhkl ?zqhx ?zqhxo ?zqhpt _ ?zqhmem _ _ _ _ _ _ _ _ _ _ _ _ _ _ _ _ _ _ _ _ _ _ ?zqk1 ?zqk2 ?zqk3 ?zqk4 ?zqk5 ?zqkK ?zqkd ?zqku ?_; (case zqk1 => k_asm); (case zqk2 => k_asm); (case zqk3 => k_asm); (case zqk4 => k_asm); (case zqk5 => k_asm); (case zqkK => first | exact rfl | assumption); (case zqhmem => k_mem); (case zqhks => assumption); (case zqhkl => assumption); (case zqhx => assumption); (case zqhxo => assumption); (case zqhpt => assumption); (case zqkd => ktr_room); (case zqku => ktr_units); refine ⟨fun hfv => ?zqfv1, fun ds9 hfv => ?zqfv2⟩; (case' zqfv1 => (refine Ret.use ?_; intro t9 h9 tk9 F9 N9; (try dsimp only); (try k_fold))); (case' zqfv2 => (intro vs9 n9 l9' h9 tk9 sa9 F9 N9 l9; (try k_lt l9); (try dsimp only); (try k_fold))))))) | (k_unfold; (try dsimp only)) | (k_end; wrow_close) | walk1 | (dsimp only; first | walk1 | (fail_if_success (fail_if_success (with_reducible show wpAny _ _ (call (Value.builtin "list.pop") (_ :: _)) _ _ _))) | (fail_if_success (fail_if_success (with_reducible show wpAny _ _ (call (Value.ref _) (_ :: _)) _ _ _)))) | (leave1; walk_say "STEP leave1"; try dsimp only) | fail "no step"))
          refine Stop.mk ?_
          dsimp only
          have hrl3 := hrv.length
          have hwl3 := hws.length
          have hwl4 := wrote_len (pRow bg y bm) []
          simp only [List.length_nil] at hwl4
          refine' kmk_add_lit (its := rvs.toArray) (its2 := wvs.toArray) (zs := rvs ++ wvs) ?F ?N ?a ?b rfl ?_ ?z
          case F => k_asm
          case N => exact NA3
          case a => exact News.isList NA3 (.tail _ (.head _))
          case b => exact News.isList NA3 (.head _)
          case z =>
            rw [sizeLine_eq]
            exact Nat.le_trans (q5 hrn2 hrl3 hwl3 hwl4) (by decide)
          intro rb hA4 FA4 NA4 hrb
          have hrb1 : @Ne Nat rb lf := Nat.ne_of_gt (hrb _ (.tail _ (.tail _ (.head _))))
          have hrb2 : ∀ p ∈ L0, p.1 ≠ rb := fun p hp => Nat.ne_of_lt (hrb p (.tail _ (.tail _ (.tail _ hp))))
          have NA5 := ndrop (a := [_]) (b := [_, _]) NA4
          simp only [List.cons_append, List.nil_append] at NA5
          clear NA4 NA3 hwlt
          have hrw : StrsAre (rvs ++ wvs) (wrote (pRow bg y bm) rws) := wrote_app _ rws ▸ hrv.append' hws
          have hrwl := wrote_len (pRow bg y bm) rws
          have hrsz : (rvs ++ wvs).toArray.size ≤ 25 := by rw [List.size_toArray, List.length_append]; exact q5 hrn2 hrl3 hwl3 hwl4
          have hrwo := wrote_ok (pRow_ok bm hbo hyo) hro
          dsimp only
          (try k_fold)
          have hb9 : (wrote (pRow bg y bm) rws).length + 1 + 2 * ys3.length ≤ 20 := q1 hrn2 hrwl
          have hb8 : (wrote (pRow bg y bm) rws).length + 2 * ys3.length ≤ 20 := q2 hb9
          have hlo2 : ∀ z ∈ ys3, RowOk z := fun z hz => hlo z (List.Mem.tail _ hz)
          have hrwo2 : ∀ z ∈ wrote (pRow bg y bm) rws ++ [againT], PyData.strOk z = true := fun z hz => by
            rcases List.mem_append.mp hz with hz | hz
            · exact hrwo z hz
            · rw [List.mem_singleton.mp hz]; decide +kernel
          have heo : PyData.strOk (Str.ofString "") = true := by decide +kernel
          (try (with_reducible show wpAny _ _ _ _ _ _)); (try k_fold); (repeat' (first | ((fail_if_success (fail_if_success (with_reducible show wpAny _ _ (call (Value.builtin "list.pop") (_ :: _)) _ _ _))); (k_here; (with_reducible show wpAny _ _ (call (Value.builtin _) [Value.ref _, Value.int _ _]) _ _ _); k_dflt (refine' kl_popAt ?zqF ?zqN ?zqf ?zqk ?zqe ?zqU ?zqz ?_; (case zqF => k_asm); (case zqN => k_asm); (case zqU => k_upd); (case zqf => rfl); (case zqk => exact pop_k _ _); (case zqe => rfl); (case zqz => (rw [sizeLine_eq]; simp; first | assumption | omega))); kl_rest)) | ((fail_if_success (fail_if_success (with_reducible show wpAny _ _ (call (Value.ref _) (_ :: _)) _ _ _))); (k_here; k_dflt (first | (refine' law_row_c _ _ _ ?zqh0 _ _ _ _ _ _ _ _ _ _ _ _ _ _ _ _ _ _ _ _ _ _ _ ?zqk1 ?zqk2 ?zqk3 ?zqk4 ?zqk5 ?zqkK ?zqkd ?zqku ?_; (case zqk1 => k_asm); (case zqk2 => k_asm); (case zqk3 => k_asm); (case zqk4 => k_asm); (case zqk5 => k_asm); (case zqkK => first | exact rfl | assumption); (case zqh0 => assumption); (case zqkd => ktr_room); (case zqku => ktr_units); (intro x9 hro9 t9 h9 tk9 r9 e9 F9 N9; subst e9; (try dsimp only); (try k_fold))) | (refine' law_fitted_c _ _ _ _ _ _ _ ?zqhks ?zqhkl ?zqhx ?zqhxo ?zqhpt _ ?zqhmem _ _ _ _ _ _ _ _ _ _ _ _ _ _ _ _ _ _ _ _ _ _ ?zqk1 ?zqk2 ?zqk3 ?zqk4 ?zqk5 ?zqkK ?zqkd ?zqku ?_; (case zqk1 => k_asm); (case zqk2 => k_asm); (case zqk3 => k_asm); (case zqk4 => k_asm); (case zqk5 => k_asm); (case zqkK => first | exact rfl | assumption); (case zqhmem => k_mem); (case zqhks => assumption); (case zqhkl => assumption); (case zqhx => assumption); (case zqhxo => assumption); (case zqhpt => assumption); (case zqkd => ktr_room); (case zqku => ktr_units); refine ⟨fun hfv => ?zqfv1, fun ds9 hfv => ?zqfv2⟩; (case' zqfv1 => (refine Ret.use ?_; intro t9 h9 tk9 F9 N9; (try dsimp only); (try k_fold))); (case' zqfv2 => (intro vs9 n9 l9' h9 tk9 sa9 F9 N9 l9; (try k_lt l9); (try dsimp only); (try k_fold))))))) | (k_unfold; (try dsimp only)) | (k_end; wrow_close) | walk1 | (dsimp only; first | walk1 | (fail_if_success (fail_if_success (with_reducible show wpAny _ _ (call (Value.builtin "list.pop") (_ :: _)) _ _ _))) | (fail_if_success (fail_if_success (with_reducible show wpAny _ _ (call (Value.ref _) (_ :: _)) _ _ _)))) | (leave1; walk_say "STEP leave1"; try dsimp only) | fail "no step"))
          · rename (fitF ks x0 = some _) => hfv
            rename (CarriedAll _ _) => hcar
            rename (News _ _ _ _) => hN
            rename (@LT.lt Nat _ rb _ ∧ _) => hl9
            exact ex4 ⟨Str.ofString "", _, rb, wrote (pRow bg y bm) rws, rvs ++ wvs, _, ys3, vs3, _, some (_, _, _, _)⟩ _ _ _ ⟨rfl, by k_asm, ndrop (a := []) (b := [_]) hN, ⟨rfl, rfl, rfl, rfl, rfl, rfl, rfl, rfl, rfl, trivial⟩, ⟨hrw, hlv2, Nat.zero_le _, hb8, hlo2, hrwo, heo, hrb1, hrb2, hcar, allLt_mem (l := (rb, _) :: (lf, _) :: L0) hl9, hR.trans (askF_some hfv)⟩, Nat.succ_pos _⟩
          · rename (fitF ks x0 = none) => hfv
            rename (News _ _ _ _) => hN
            rw [List.push_toArray] at hN
            exact ex4 ⟨Str.ofString "", _, rb, wrote (pRow bg y bm) rws ++ [againT], (rvs ++ wvs) ++ [_], _, ys3, vs3, _, none⟩ _ _ _ ⟨rfl, by k_asm, ndrop (a := []) (b := [_]) hN, ⟨rfl, rfl, rfl, rfl, rfl, rfl, rfl, rfl, rfl, trivial⟩, ⟨hrw.append' (.cons _ _ .nil), hlv2, Nat.zero_le _, by rw [List.length_append]; exact hb9, hlo2, hrwo2, heo, hrb1, hrb2, hR.trans (askF_none hfv)⟩, Nat.lt_succ_self _⟩
  intro c u h7 tk7 F7 N7 hP7 hR7
  clear lF N8
  subst hL0
  obtain ⟨bg, tb, ra, rws, rvs, rn, lxs, lvs, ln, fo⟩ := c
  obtain ⟨hrv, hlv, hbl, hrn, hlo, hro, hbo, hne1, hne2, hfo⟩ := hP7
  dsimp only at hrv hlv hbl hrn hlo hro hbo hne1 hne2 hfo hR7
  have hn1 : ∀ p ∈ news, p.1 ≠ oa := tbn_neAll wl3.2.2.2.2
  have hn2 : ∀ p ∈ news, p.1 ≠ x := tbn_neAll wl2.2.2.2
  have hn3 : ∀ p ∈ news, p.1 ≠ dx := tbn_neAll wl1.2.2
  have hn4 : ∀ p ∈ news, p.1 ≠ ld := tbn_neAll hld.2.2.2.2.2.2.2.2.2
  have hr1 : @Ne Nat oa ra := hne2 (oa, _) (.tail _ (.tail _ (.tail _ (.head _))))
  have hr2 : @Ne Nat x ra := hne2 (x, _) (.tail _ (.tail _ (.tail _ (.tail _ (.head _)))))
  have hr3 : @Ne Nat dx ra := hne2 (dx, _) (.tail _ (.tail _ (.tail _ (.tail _ (.tail _ (.head _))))))
  have hr4 : @Ne Nat ld ra := hne2 (ld, _) (.head _)
  clear hne2 hLrl hLlf hLka
  cases fo with
  | none =>
    dsimp only [RfSt.led, RfSt.fv] at F7 N7
    dsimp only [Option.map] at hR7
    have NP := toFront (a := [_, _, _, _, _, _, _, _]) (toFront (a := [_, _, _, _, _, _, _, _]) (toFront (a := [_, _, _, _, _, _, _, _]) (toFront (a := [_, _, _]) (toFront (a := [_, _, _, _, _, _, _, _]) N7))))
    simp only [List.cons_append, List.nil_append] at NP
    (try ((first | with_reducible refine foldW0 NP ?_ | with_reducible refine foldW1 NP ?_ | with_reducible refine foldW2 NP ?_ | with_reducible refine foldW3 NP ?_ | with_reducible refine foldW4 NP ?_ | with_reducible refine foldW5 NP ?_ | with_reducible refine foldW6 NP ?_ | with_reducible refine foldW7 NP ?_ | with_reducible refine foldW8 NP ?_); clear NP; intro NP))
    clear N7
    simp only [List.append_eq, List.nil_append] at NP
    (try (with_reducible show wpAny _ _ _ _ _ _)); (try k_fold); (repeat' (first | ((fail_if_success (fail_if_success (with_reducible show wpAny _ _ (call (Value.builtin "list.pop") (_ :: _)) _ _ _))); (k_here; (with_reducible show wpAny _ _ (call (Value.builtin _) [Value.ref _, Value.int _ _]) _ _ _); k_dflt (refine' kl_popAt ?zqF ?zqN ?zqf ?zqk ?zqe ?zqU ?zqz ?_; (case zqF => k_asm); (case zqN => k_asm); (case zqU => k_upd); (case zqf => rfl); (case zqk => exact pop_k _ _); (case zqe => rfl); (case zqz => (rw [sizeLine_eq]; simp; first | assumption | omega))); kl_rest)) | ((fail_if_success (fail_if_success (with_reducible show wpAny _ _ (call (Value.ref _) (_ :: _)) _ _ _))); (k_here; k_dflt (first | (refine' law_row_c _ _ _ ?zqh0 _ _ _ _ _ _ _ _ _ _ _ _ _ _ _ _ _ _ _ _ _ _ _ ?zqk1 ?zqk2 ?zqk3 ?zqk4 ?zqk5 ?zqkK ?zqkd ?zqku ?_; (case zqk1 => k_asm); (case zqk2 => k_asm); (case zqk3 => k_asm); (case zqk4 => k_asm); (case zqk5 => k_asm); (case zqkK => first | exact rfl | assumption); (case zqh0 => assumption); (case zqkd => ktr_room); (case zqku => ktr_units); (intro x9 hro9 t9 h9 tk9 r9 e9 F9 N9; subst e9; (try dsimp only); (try k_fold))) | (refine' law_fitted_c _ _ _ _ _ _ _ ?zqhks ?zqhkl ?zqhx ?zqhxo ?zqhpt _ ?zqhmem _ _ _ _ _ _ _ _ _ _ _ _ _ _ _ _ _ _ _ _ _ _ ?zqk1 ?zqk2 ?zqk3 ?zqk4 ?zqk5 ?zqkK ?zqkd ?zqku ?_; (case zqk1 => k_asm); (case zqk2 => k_asm); (case zqk3 => k_asm); (case zqk4 => k_asm); (case zqk5 => k_asm); (case zqkK => first | exact rfl | assumption); (case zqhmem => k_mem); (case zqhks => assumption); (case zqhkl => assumption); (case zqhx => assumption); (case zqhxo => assumption); (case zqhpt => assumption); (case zqkd => ktr_room); (case zqku => ktr_units); refine ⟨fun hfv => ?zqfv1, fun ds9 hfv => ?zqfv2⟩; (case' zqfv1 => (refine Ret.use ?_; intro t9 h9 tk9 F9 N9; (try dsimp only); (try k_fold))); (case' zqfv2 => (intro vs9 n9 l9' h9 tk9 sa9 F9 N9 l9; (try k_lt l9); (try dsimp only); (try k_fold))))))) | (k_unfold; (try dsimp only)) | (k_end; wrow_close) | walk1 | (dsimp only; first | walk1 | (fail_if_success (fail_if_success (with_reducible show wpAny _ _ (call (Value.builtin "list.pop") (_ :: _)) _ _ _))) | (fail_if_success (fail_if_success (with_reducible show wpAny _ _ (call (Value.ref _) (_ :: _)) _ _ _)))) | (leave1; walk_say "STEP leave1"; try dsimp only) | fail "no step"))
    rename (News _ _ _ _) => lNa
    refine' ask_values_c _ _ _ ?hpv _ _ _ _ _ _ _ _ _ ?hos _ _ ?hrl ?hrok _ _ _ ?hes _ _ ?hiv ?hol ?hxs _ _ _ ?hks ?hkl _ _ ?d1 ?d2 ?d3 ?d7 ?d8 ?d9 ?d11 ?d12 ?d13 ?d14 ?d4 ?d5 ?d6 ?d10 _ _ _ _ _ _ _ _ _ _ _ _ _ _ _ _ _ _ _ _ _ _ ?k1 ?k2 ?k3 ?k4 ?k5 ?kK ?kd ?ku ?_
    case k1 => k_asm
    case k2 => k_asm
    case k3 => k_asm
    case k4 => exact lNa
    case k5 => k_asm
    case kK => exact rfl
    case hes => exact WD.ent
    case hpv => exact hpv
    case hos => exact .nil
    case hrl => first | exact Nat.le_trans hrl (by decide) | omega
    case hrok => exact hrok
    case hiv => exact hys
    case hol => exact Nat.le_trans (q10 hxl6) (by decide)
    case hxs => exact fun z hz => ⟨(hxs z hz).1, (hxs z hz).2.1⟩
    case hks => exact hks
    case hkl => exact hkl
    case d1 => k_ne
    case d2 => k_ne
    case d3 => k_ne
    case d7 => k_ne
    case d8 => k_ne
    case d9 => k_ne
    case d11 => k_ne
    case d12 => k_ne
    case d13 => k_ne
    case d14 => k_ne
    case d4 => exact List.forall_mem_cons.mpr ⟨by k_ne, List.forall_mem_cons.mpr ⟨by k_ne, List.forall_mem_cons.mpr ⟨by k_ne, List.forall_mem_cons.mpr ⟨by k_ne, List.forall_mem_cons.mpr ⟨by k_ne, hn1⟩⟩⟩⟩⟩
    case d5 => exact List.forall_mem_cons.mpr ⟨by k_ne, List.forall_mem_cons.mpr ⟨by k_ne, List.forall_mem_cons.mpr ⟨by k_ne, List.forall_mem_cons.mpr ⟨by k_ne, List.forall_mem_cons.mpr ⟨by k_ne, hn2⟩⟩⟩⟩⟩
    case d6 => exact List.forall_mem_cons.mpr ⟨by k_ne, List.forall_mem_cons.mpr ⟨by k_ne, List.forall_mem_cons.mpr ⟨by k_ne, List.forall_mem_cons.mpr ⟨by k_ne, List.forall_mem_cons.mpr ⟨by k_ne, hn3⟩⟩⟩⟩⟩
    case d10 => exact List.forall_mem_cons.mpr ⟨by k_ne, List.forall_mem_cons.mpr ⟨by k_ne, List.forall_mem_cons.mpr ⟨by k_ne, List.forall_mem_cons.mpr ⟨by k_ne, List.forall_mem_cons.mpr ⟨by k_ne, hn4⟩⟩⟩⟩⟩
    case kd => ktr_room
    case ku => ktr_units

    refine ⟨fun ds os2 xs2 hh => ?_, fun os2 hh => ?_⟩
    · rw [hR7] at hh
      cases hh
    · rw [hR7] at hh
      intro h8 g8 tk8 e8 tt8 ovs2 on2 es2 r2 t2 inn2 hos2 hr2l hr2o hes2 FG8 hU8 hS8
      obtain ⟨T2, U2, rfl⟩ := hes2.ex
      dsimp only [wChunk] at hS8 ⊢
      (try k_fold)
      obtain ⟨rfl, rfl⟩ : rws = os2 ∧ lxs = [] := by simpa using hh
      cases hlv
      (try (with_reducible show wpAny _ _ _ _ _ _)); (try k_fold); (repeat' (first | ((fail_if_success (fail_if_success (with_reducible show wpAny _ _ (call (Value.builtin "list.pop") (_ :: _)) _ _ _))); (k_here; (with_reducible show wpAny _ _ (call (Value.builtin _) [Value.ref _, Value.int _ _]) _ _ _); k_dflt (refine' kl_popAt ?zqF ?zqN ?zqf ?zqk ?zqe ?zqU ?zqz ?_; (case zqF => k_asm); (case zqN => k_asm); (case zqU => k_upd); (case zqf => rfl); (case zqk => exact pop_k _ _); (case zqe => rfl); (case zqz => (rw [sizeLine_eq]; simp; first | assumption | omega))); kl_rest)) | ((fail_if_success (fail_if_success (with_reducible show wpAny _ _ (call (Value.ref _) (_ :: _)) _ _ _))); (k_here; k_dflt (first | (refine' law_row_c _ _ _ ?zqh0 _ _ _ _ _ _ _ _ _ _ _ _ _ _ _ _ _ _ _ _ _ _ _ ?zqk1 ?zqk2 ?zqk3 ?zqk4 ?zqk5 ?zqkK ?zqkd ?zqku ?_; (case zqk1 => k_asm); (case zqk2 => k_asm); (case zqk3 => k_asm); (case zqk4 => k_asm); (case zqk5 => k_asm); (case zqkK => first | exact rfl | assumption); (case zqh0 => assumption); (case zqkd => ktr_room); (case zqku => ktr_units); (intro x9 hro9 t9 h9 tk9 r9 e9 F9 N9; subst e9; (try dsimp only); (try k_fold))) | (refine' law_fitted_c _ _ _ _ _ _ _ ?zqhks ?zqhkl ?zqhx ?zqhxo ?zqhpt _ ?zqhmem _ _ _ _ _ _ _ _ _ _ _ _ _ _ _ _ _ _ _ _ _ _ ?zqk1 ?zqk2 ?zqk3 ?zqk4 ?zqk5 ?zqkK ?zqkd ?zqku ?_; (case zqk1 => k_asm); (case zqk2 => k_asm); (case zqk3 => k_asm); (case zqk4 => k_asm); (case zqk5 => k_asm); (case zqkK => first | exact rfl | assumption); (case zqhmem => k_mem); (case zqhks => assumption); (case zqhkl => assumption); (case zqhx => assumption); (case zqhxo => assumption); (case zqhpt => assumption); (case zqkd => ktr_room); (case zqku => ktr_units); refine ⟨fun hfv => ?zqfv1, fun ds9 hfv => ?zqfv2⟩; (case' zqfv1 => (refine Ret.use ?_; intro t9 h9 tk9 F9 N9; (try dsimp only); (try k_fold))); (case' zqfv2 => (intro vs9 n9 l9' h9 tk9 sa9 F9 N9 l9; (try k_lt l9); (try dsimp only); (try k_fold))))))) | (k_unfold; (try dsimp only)) | (k_end; wrow_close) | walk1 | (dsimp only; first | walk1 | (fail_if_success (fail_if_success (with_reducible show wpAny _ _ (call (Value.builtin "list.pop") (_ :: _)) _ _ _))) | (fail_if_success (fail_if_success (with_reducible show wpAny _ _ (call (Value.ref _) (_ :: _)) _ _ _)))) | (leave1; walk_say "STEP leave1"; try dsimp only) | fail "no step"))
      refine Stop.mk ?_
      rename (News _ _ _ (_ :: _)) => lNb
      refine' ne_texts (xs := rws) (reads_newData ?haq ?hbq) (reads_newData ?hcq ?hdq) hro ?hfq ?_
      case haq => exact News.isList lNb (.head _)
      case hbq => exact strs_carried hos2
      case hcq => exact News.isList lNb (.tail _ (.tail _ (.tail _ (.tail _ (.tail _ (.head _))))))
      case hdq => exact strs_carried hrv
      case hfq => exact (Mine.rm2 hu rfl : un + 3 + 64 < cLine)
      (try (with_reducible show wpAny _ _ _ _ _ _)); (try k_fold); (repeat' (first | ((fail_if_success (fail_if_success (with_reducible show wpAny _ _ (call (Value.builtin "list.pop") (_ :: _)) _ _ _))); (k_here; (with_reducible show wpAny _ _ (call (Value.builtin _) [Value.ref _, Value.int _ _]) _ _ _); k_dflt (refine' kl_popAt ?zqF ?zqN ?zqf ?zqk ?zqe ?zqU ?zqz ?_; (case zqF => k_asm); (case zqN => k_asm); (case zqU => k_upd); (case zqf => rfl); (case zqk => exact pop_k _ _); (case zqe => rfl); (case zqz => (rw [sizeLine_eq]; simp; first | assumption | omega))); kl_rest)) | ((fail_if_success (fail_if_success (with_reducible show wpAny _ _ (call (Value.ref _) (_ :: _)) _ _ _))); (k_here; k_dflt (first | (refine' law_row_c _ _ _ ?zqh0 _ _ _ _ _ _ _ _ _ _ _ _ _ _ _ _ _ _ _ _ _ _ _ ?zqk1 ?zqk2 ?zqk3 ?zqk4 ?zqk5 ?zqkK ?zqkd ?zqku ?_; (case zqk1 => k_asm); (case zqk2 => k_asm); (case zqk3 => k_asm); (case zqk4 => k_asm); (case zqk5 => k_asm); (case zqkK => first | exact rfl | assumption); (case zqh0 => assumption); (case zqkd => ktr_room); (case zqku => ktr_units); (intro x9 hro9 t9 h9 tk9 r9 e9 F9 N9; subst e9; (try dsimp only); (try k_fold))) | (refine' law_fitted_c _ _ _ _ _ _ _ ?zqhks ?zqhkl ?zqhx ?zqhxo ?zqhpt _ ?zqhmem _ _ _ _ _ _ _ _ _ _ _ _ _ _ _ _ _ _ _ _ _ _ ?zqk1 ?zqk2 ?zqk3 ?zqk4 ?zqk5 ?zqkK ?zqkd ?zqku ?_; (case zqk1 => k_asm); (case zqk2 => k_asm); (case zqk3 => k_asm); (case zqk4 => k_asm); (case zqk5 => k_asm); (case zqkK => first | exact rfl | assumption); (case zqhmem => k_mem); (case zqhks => assumption); (case zqhkl => assumption); (case zqhx => assumption); (case zqhxo => assumption); (case zqhpt => assumption); (case zqkd => ktr_room); (case zqku => ktr_units); refine ⟨fun hfv => ?zqfv1, fun ds9 hfv => ?zqfv2⟩; (case' zqfv1 => (refine Ret.use ?_; intro t9 h9 tk9 F9 N9; (try dsimp only); (try k_fold))); (case' zqfv2 => (intro vs9 n9 l9' h9 tk9 sa9 F9 N9 l9; (try k_lt l9); (try dsimp only); (try k_fold))))))) | (k_unfold; (try dsimp only)) | (k_end; wrow_close) | walk1 | (dsimp only; first | walk1 | (fail_if_success (fail_if_success (with_reducible show wpAny _ _ (call (Value.builtin "list.pop") (_ :: _)) _ _ _))) | (fail_if_success (fail_if_success (with_reducible show wpAny _ _ (call (Value.ref _) (_ :: _)) _ _ _)))) | (leave1; walk_say "STEP leave1"; try dsimp only) | fail "no step"))
      refine Stop.mk ?_
      refine' ne_texts (xs := []) (reads_newData (ys := []) ?haq ?hbq) (reads_newData (ys := []) ?hcq ?hdq) (List.forall_mem_nil _) ?hfq ?_
      case haq => exact News.isList lNb (.tail _ (.tail _ (.tail _ (.head _))))
      case hbq => exact .nil
      case hcq => exact News.isList lNb (.tail _ (.tail _ (.tail _ (.tail _ (.tail _ (.tail _ (.head _)))))))
      case hdq => exact .nil
      case hfq => exact (Mine.rm2 hu rfl : un + 3 + 64 < cLine)
      (try (with_reducible show wpAny _ _ _ _ _ _)); (try k_fold); (repeat' (first | ((fail_if_success (fail_if_success (with_reducible show wpAny _ _ (call (Value.builtin "list.pop") (_ :: _)) _ _ _))); (k_here; (with_reducible show wpAny _ _ (call (Value.builtin _) [Value.ref _, Value.int _ _]) _ _ _); k_dflt (refine' kl_popAt ?zqF ?zqN ?zqf ?zqk ?zqe ?zqU ?zqz ?_; (case zqF => k_asm); (case zqN => k_asm); (case zqU => k_upd); (case zqf => rfl); (case zqk => exact pop_k _ _); (case zqe => rfl); (case zqz => (rw [sizeLine_eq]; simp; first | assumption | omega))); kl_rest)) | ((fail_if_success (fail_if_success (with_reducible show wpAny _ _ (call (Value.ref _) (_ :: _)) _ _ _))); (k_here; k_dflt (first | (refine' law_row_c _ _ _ ?zqh0 _ _ _ _ _ _ _ _ _ _ _ _ _ _ _ _ _ _ _ _ _ _ _ ?zqk1 ?zqk2 ?zqk3 ?zqk4 ?zqk5 ?zqkK ?zqkd ?zqku ?_; (case zqk1 => k_asm); (case zqk2 => k_asm); (case zqk3 => k_asm); (case zqk4 => k_asm); (case zqk5 => k_asm); (case zqkK => first | exact rfl | assumption); (case zqh0 => assumption); (case zqkd => ktr_room); (case zqku => ktr_units); (intro x9 hro9 t9 h9 tk9 r9 e9 F9 N9; subst e9; (try dsimp only); (try k_fold))) | (refine' law_fitted_c _ _ _ _ _ _ _ ?zqhks ?zqhkl ?zqhx ?zqhxo ?zqhpt _ ?zqhmem _ _ _ _ _ _ _ _ _ _ _ _ _ _ _ _ _ _ _ _ _ _ ?zqk1 ?zqk2 ?zqk3 ?zqk4 ?zqk5 ?zqkK ?zqkd ?zqku ?_; (case zqk1 => k_asm); (case zqk2 => k_asm); (case zqk3 => k_asm); (case zqk4 => k_asm); (case zqk5 => k_asm); (case zqkK => first | exact rfl | assumption); (case zqhmem => k_mem); (case zqhks => assumption); (case zqhkl => assumption); (case zqhx => assumption); (case zqhxo => assumption); (case zqhpt => assumption); (case zqkd => ktr_room); (case zqku => ktr_units); refine ⟨fun hfv => ?zqfv1, fun ds9 hfv => ?zqfv2⟩; (case' zqfv1 => (refine Ret.use ?_; intro t9 h9 tk9 F9 N9; (try dsimp only); (try k_fold))); (case' zqfv2 => (intro vs9 n9 l9' h9 tk9 sa9 F9 N9 l9; (try k_lt l9); (try dsimp only); (try k_fold))))))) | ((with_reducible show wpAny _ _ (setAttr (Value.ref _) (Str.ofString "row") _) _ _ _); k_here; k_dflt (refine' setW_row ?zk1 ?zk2 ?zk3 ?zk4 ?zk5 ?zk6 ?zk7 ?zk8 ?zk9 ?zk12 ?_; (case zk1 => k_asm); (case zk2 => k_asm); (case zk3 => k_asm); (case zk4 => k_inst); (case zk5 => exact rfl); (case zk6 => k_is); (case zk7 => k_is); (case zk8 => k_is); (case zk9 => k_is); (case zk12 => k_upd); k_whole; intro h' F' N'; (try k_sweep))) | ((with_reducible show wpAny _ _ (setAttr (Value.ref _) (Str.ofString "inputs") _) _ _ _); k_here; k_dflt (refine' setW_inputs ?zk1 ?zk2 ?zk3 ?zk4 ?zk5 ?zk6 ?zk7 ?zk8 ?zk9 ?zk12 ?_; (case zk1 => k_asm); (case zk2 => k_asm); (case zk3 => k_asm); (case zk4 => k_inst); (case zk5 => exact rfl); (case zk6 => k_is); (case zk7 => k_is); (case zk8 => k_is); (case zk9 => k_is); (case zk12 => k_upd); k_whole; intro h' F' N'; (try k_sweep))) | (k_unfold; (try dsimp only)) | (k_end; wrow_close) | walk1 | (dsimp only; first | walk1 | (fail_if_success (fail_if_success (with_reducible show wpAny _ _ (call (Value.builtin "list.pop") (_ :: _)) _ _ _))) | (fail_if_success (fail_if_success (with_reducible show wpAny _ _ (call (Value.ref _) (_ :: _)) _ _ _)))) | (leave1; walk_say "STEP leave1"; try dsimp only) | fail "no step"))
      rename (@LT.lt Nat _ oa _ ∧ _) => hq3
      refine nameLt hq3 ?_
      intro li e
      subst e
      rename (News _ _ _ (_ :: _)) => lNc
      have lNd := toFront (a := [_, _, _]) (toFront (a := [_, _, _]) (toFront (a := [_, _, _]) lNc))
      simp only [List.cons_append, List.nil_append, List.append_eq] at lNd
      (try ((first | with_reducible refine foldW0 lNd ?_ | with_reducible refine foldW1 lNd ?_ | with_reducible refine foldW2 lNd ?_ | with_reducible refine foldW3 lNd ?_ | with_reducible refine foldW4 lNd ?_ | with_reducible refine foldW5 lNd ?_ | with_reducible refine foldW6 lNd ?_ | with_reducible refine foldW7 lNd ?_ | with_reducible refine foldW8 lNd ?_); clear lNd; intro lNd))
      clear lNc
      have hn5 : ∀ p ∈ news, p.1 ≠ li := tbn_neAll hq3.2.2.2.2.2.2.2.2.2.2
      have hwl9 := wrote_len (pRow r2 (Str.ofString "L") false) rws
      (try dsimp only)
      (try k_fold)
      refine' ask_line_c _ _ _ ?hpv _ _ _ _ _ _ _ ?hos ?hol _ _ ?hrl _ _ _ ?hes _ _ ?hx0 _ _ ?hiv ?hil _ _ ?d1 ?d2 ?d3 ?d7 ?d8 ?d9 ?d4 ?d5 ?d6 ?d10 _ _ _ _ _ _ _ _ _ _ _ _ _ _ _ _ _ _ _ _ _ _ ?k1 ?k2 ?k3 ?k4 ?k5 ?kK ?kd ?ku ?_
      case k1 => k_asm
      case k2 => k_asm
      case k3 => k_asm
      case k4 => exact lNd
      case k5 => k_asm
      case kK => exact rfl
      case hes => exact WD.ent
      case hpv => exact PrV.text (Str.ofString "L") _ (by decide) (by decide +kernel)
      case hos => exact hos2
      case hol => first | exact q3 hrn rfl | exact Nat.le_trans hwl9 (Nat.succ_le_succ (q3 (M := 99) hrn rfl)) | omega
      case hrl => first | decide | exact Nat.le_trans hr2l (by decide) | omega
      case hx0 => decide
      case hiv => exact StrsAre.cons _ _ .nil
      case hil => decide
      case d1 => k_ne
      case d2 => k_ne
      case d3 => k_ne
      case d7 => k_ne
      case d8 => k_ne
      case d9 => k_ne
      case d4 => exact List.forall_mem_cons.mpr ⟨by k_ne, List.forall_mem_cons.mpr ⟨by k_ne, List.forall_mem_cons.mpr ⟨by k_ne, List.forall_mem_cons.mpr ⟨by k_ne, List.forall_mem_cons.mpr ⟨by k_ne, List.forall_mem_cons.mpr ⟨by k_ne, List.forall_mem_cons.mpr ⟨by k_ne, hn1⟩⟩⟩⟩⟩⟩⟩
      case d5 => exact List.forall_mem_cons.mpr ⟨by k_ne, List.forall_mem_cons.mpr ⟨by k_ne, List.forall_mem_cons.mpr ⟨by k_ne, List.forall_mem_cons.mpr ⟨by k_ne, List.forall_mem_cons.mpr ⟨by k_ne, List.forall_mem_cons.mpr ⟨by k_ne, List.forall_mem_cons.mpr ⟨by k_ne, hn2⟩⟩⟩⟩⟩⟩⟩
      case d6 => exact List.forall_mem_cons.mpr ⟨by k_ne, List.forall_mem_cons.mpr ⟨by k_ne, List.forall_mem_cons.mpr ⟨by k_ne, List.forall_mem_cons.mpr ⟨by k_ne, List.forall_mem_cons.mpr ⟨by k_ne, List.forall_mem_cons.mpr ⟨by k_ne, List.forall_mem_cons.mpr ⟨by k_ne, hn3⟩⟩⟩⟩⟩⟩⟩
      case d10 => exact List.forall_mem_cons.mpr ⟨by k_ne, List.forall_mem_cons.mpr ⟨by k_ne, List.forall_mem_cons.mpr ⟨by k_ne, List.forall_mem_cons.mpr ⟨by k_ne, List.forall_mem_cons.mpr ⟨by k_ne, List.forall_mem_cons.mpr ⟨by k_ne, List.forall_mem_cons.mpr ⟨by k_ne, hn5⟩⟩⟩⟩⟩⟩⟩
      case kd => ktr_room
      case ku => ktr_units

      intro h9 tk9 v9 ovs3 on3 es3 t3 inn3 hv9 hos3 hes3 FG9 NG9
      subst hv9
      obtain ⟨T3, U3, rfl⟩ := hes3.ex
      dsimp only [wChunk] at NG9
      (try dsimp only)
      (try k_fold)
      (try (with_reducible show wpAny _ _ _ _ _ _)); (try k_fold); (repeat' (first | ((fail_if_success (fail_if_success (with_reducible show wpAny _ _ (call (Value.builtin "list.pop") (_ :: _)) _ _ _))); (k_here; (with_reducible show wpAny _ _ (call (Value.builtin _) [Value.ref _, Value.int _ _]) _ _ _); k_dflt (refine' kl_popAt ?zqF ?zqN ?zqf ?zqk ?zqe ?zqU ?zqz ?_; (case zqF => k_asm); (case zqN => k_asm); (case zqU => k_upd); (case zqf => rfl); (case zqk => exact pop_k _ _); (case zqe => rfl); (case zqz => (rw [sizeLine_eq]; simp; first | assumption | omega))); kl_rest)) | ((fail_if_success (fail_if_success (with_reducible show wpAny _ _ (call (Value.ref _) (_ :: _)) _ _ _))); (k_here; k_dflt (first | (refine' law_row_c _ _ _ ?zqh0 _ _ _ _ _ _ _ _ _ _ _ _ _ _ _ _ _ _ _ _ _ _ _ ?zqk1 ?zqk2 ?zqk3 ?zqk4 ?zqk5 ?zqkK ?zqkd ?zqku ?_; (case zqk1 => k_asm); (case zqk2 => k_asm); (case zqk3 => k_asm); (case zqk4 => k_asm); (case zqk5 => k_asm); (case zqkK => first | exact rfl | assumption); (case zqh0 => assumption); (case zqkd => ktr_room); (case zqku => ktr_units); (intro x9 hro9 t9 h9 tk9 r9 e9 F9 N9; subst e9; (try dsimp only); (try k_fold))) | (refine' law_fitted_c _ _ _ _ _ _ _ ?zqhks ?zqhkl ?zqhx ?zqhxo ?zqhpt _ ?zqhmem _ _ _ _ _ _ _ _ _ _ _ _ _ _ _ _ _ _ _ _ _ _ ?zqk1 ?zqk2 ?zqk3 ?zqk4 ?zqk5 ?zqkK ?zqkd ?zqku ?_; (case zqk1 => k_asm); (case zqk2 => k_asm); (case zqk3 => k_asm); (case zqk4 => k_asm); (case zqk5 => k_asm); (case zqkK => first | exact rfl | assumption); (case zqhmem => k_mem); (case zqhks => assumption); (case zqhkl => assumption); (case zqhx => assumption); (case zqhxo => assumption); (case zqhpt => assumption); (case zqkd => ktr_room); (case zqku => ktr_units); refine ⟨fun hfv => ?zqfv1, fun ds9 hfv => ?zqfv2⟩; (case' zqfv1 => (refine Ret.use ?_; intro t9 h9 tk9 F9 N9; (try dsimp only); (try k_fold))); (case' zqfv2 => (intro vs9 n9 l9' h9 tk9 sa9 F9 N9 l9; (try k_lt l9); (try dsimp only); (try k_fold))))))) | (k_unfold; (try dsimp only)) | (k_end; wrow_close) | walk1 | (dsimp only; first | walk1 | (fail_if_success (fail_if_success (with_reducible show wpAny _ _ (call (Value.builtin "list.pop") (_ :: _)) _ _ _))) | (fail_if_success (fail_if_success (with_reducible show wpAny _ _ (call (Value.ref _) (_ :: _)) _ _ _)))) | (leave1; walk_say "STEP leave1"; try dsimp only) | fail "no step"))
      rename (News _ _ _ (_ :: _)) => lNe
      refine' ask_line_c _ _ _ ?hpv _ _ _ _ _ _ _ ?hos ?hol _ _ ?hrl _ _ _ ?hes _ _ ?hx0 _ _ ?hiv ?hil _ _ ?d1 ?d2 ?d3 ?d7 ?d8 ?d9 ?d4 ?d5 ?d6 ?d10 _ _ _ _ _ _ _ _ _ _ _ _ _ _ _ _ _ _ _ _ _ _ ?k1 ?k2 ?k3 ?k4 ?k5 ?kK ?kd ?ku ?_
      case k1 => k_asm
      case k2 => k_asm
      case k3 => k_asm
      case k4 => exact lNe
      case k5 => k_asm
      case kK => exact rfl
      case hes => exact WD.ent
      case hpv => exact PrV.no
      case hos => exact hos3
      case hol => first | exact q3 hrn rfl | exact Nat.le_trans hwl9 (Nat.succ_le_succ (q3 (M := 99) hrn rfl)) | omega
      case hrl => first | decide | exact Nat.le_trans hr2l (by decide) | omega
      case hx0 => decide
      case hiv => exact StrsAre.nil
      case hil => decide
      case d1 => k_ne
      case d2 => k_ne
      case d3 => k_ne
      case d7 => k_ne
      case d8 => k_ne
      case d9 => k_ne
      case d4 => exact List.forall_mem_cons.mpr ⟨by k_ne, List.forall_mem_cons.mpr ⟨by k_ne, List.forall_mem_cons.mpr ⟨by k_ne, List.forall_mem_cons.mpr ⟨by k_ne, List.forall_mem_cons.mpr ⟨by k_ne, List.forall_mem_cons.mpr ⟨by k_ne, List.forall_mem_cons.mpr ⟨by k_ne, hn1⟩⟩⟩⟩⟩⟩⟩
      case d5 => exact List.forall_mem_cons.mpr ⟨by k_ne, List.forall_mem_cons.mpr ⟨by k_ne, List.forall_mem_cons.mpr ⟨by k_ne, List.forall_mem_cons.mpr ⟨by k_ne, List.forall_mem_cons.mpr ⟨by k_ne, List.forall_mem_cons.mpr ⟨by k_ne, List.forall_mem_cons.mpr ⟨by k_ne, hn2⟩⟩⟩⟩⟩⟩⟩
      case d6 => exact List.forall_mem_cons.mpr ⟨by k_ne, List.forall_mem_cons.mpr ⟨by k_ne, List.forall_mem_cons.mpr ⟨by k_ne, List.forall_mem_cons.mpr ⟨by k_ne, List.forall_mem_cons.mpr ⟨by k_ne, List.forall_mem_cons.mpr ⟨by k_ne, List.forall_mem_cons.mpr ⟨by k_ne, hn3⟩⟩⟩⟩⟩⟩⟩
      case d10 => exact List.forall_mem_cons.mpr ⟨by k_ne, List.forall_mem_cons.mpr ⟨by k_ne, List.forall_mem_cons.mpr ⟨by k_ne, List.forall_mem_cons.mpr ⟨by k_ne, List.forall_mem_cons.mpr ⟨by k_ne, List.forall_mem_cons.mpr ⟨by k_ne, List.forall_mem_cons.mpr ⟨by k_ne, hn5⟩⟩⟩⟩⟩⟩⟩
      case kd => ktr_room
      case ku => ktr_units

      intro hB tkB vB ovs4 on4 es4 t4 inn4 hvB hos4 hes4 FGB NGB
      subst hvB
      obtain ⟨T4, U4, rfl⟩ := hes4.ex
      dsimp only [wChunk] at NGB
      (try dsimp only)
      (try k_fold)
      (try (with_reducible show wpAny _ _ _ _ _ _)); (try k_fold); (repeat' (first | ((fail_if_success (fail_if_success (with_reducible show wpAny _ _ (call (Value.builtin "list.pop") (_ :: _)) _ _ _))); (k_here; (with_reducible show wpAny _ _ (call (Value.builtin _) [Value.ref _, Value.int _ _]) _ _ _); k_dflt (refine' kl_popAt ?zqF ?zqN ?zqf ?zqk ?zqe ?zqU ?zqz ?_; (case zqF => k_asm); (case zqN => k_asm); (case zqU => k_upd); (case zqf => rfl); (case zqk => exact pop_k _ _); (case zqe => rfl); (case zqz => (rw [sizeLine_eq]; simp; first | assumption | omega))); kl_rest)) | ((fail_if_success (fail_if_success (with_reducible show wpAny _ _ (call (Value.ref _) (_ :: _)) _ _ _))); (k_here; k_dflt (first | (refine' law_row_c _ _ _ ?zqh0 _ _ _ _ _ _ _ _ _ _ _ _ _ _ _ _ _ _ _ _ _ _ _ ?zqk1 ?zqk2 ?zqk3 ?zqk4 ?zqk5 ?zqkK ?zqkd ?zqku ?_; (case zqk1 => k_asm); (case zqk2 => k_asm); (case zqk3 => k_asm); (case zqk4 => k_asm); (case zqk5 => k_asm); (case zqkK => first | exact rfl | assumption); (case zqh0 => assumption); (case zqkd => ktr_room); (case zqku => ktr_units); (intro x9 hro9 t9 h9 tk9 r9 e9 F9 N9; subst e9; (try dsimp only); (try k_fold))) | (refine' law_fitted_c _ _ _ _ _ _ _ ?zqhks ?zqhkl ?zqhx ?zqhxo ?zqhpt _ ?zqhmem _ _ _ _ _ _ _ _ _ _ _ _ _ _ _ _ _ _ _ _ _ _ ?zqk1 ?zqk2 ?zqk3 ?zqk4 ?zqk5 ?zqkK ?zqkd ?zqku ?_; (case zqk1 => k_asm); (case zqk2 => k_asm); (case zqk3 => k_asm); (case zqk4 => k_asm); (case zqk5 => k_asm); (case zqkK => first | exact rfl | assumption); (case zqhmem => k_mem); (case zqhks => assumption); (case zqhkl => assumption); (case zqhx => assumption); (case zqhxo => assumption); (case zqhpt => assumption); (case zqkd => ktr_room); (case zqku => ktr_units); refine ⟨fun hfv => ?zqfv1, fun ds9 hfv => ?zqfv2⟩; (case' zqfv1 => (refine Ret.use ?_; intro t9 h9 tk9 F9 N9; (try dsimp only); (try k_fold))); (case' zqfv2 => (intro vs9 n9 l9' h9 tk9 sa9 F9 N9 l9; (try k_lt l9); (try dsimp only); (try k_fold))))))) | (k_unfold; (try dsimp only)) | (k_end; wrow_close) | walk1 | (dsimp only; first | walk1 | (fail_if_success (fail_if_success (with_reducible show wpAny _ _ (call (Value.builtin "list.pop") (_ :: _)) _ _ _))) | (fail_if_success (fail_if_success (with_reducible show wpAny _ _ (call (Value.ref _) (_ :: _)) _ _ _)))) | (leave1; walk_say "STEP leave1"; try dsimp only) | fail "no step"))
      refine Stop.mk ?_
      rename (News _ _ _ (_ :: _)) => lNf
      refine' kmk_add_lit ?hFq ?hNq ?haq ?hbq ?heq ?_ ?hzq
      case hFq => k_asm
      case hNq => exact lNf
      case haq => exact News.isList lNf (.tail _ (.tail _ (.tail _ (.tail _ (.tail _ (.tail _ (.tail _ (.head _))))))))
      case hbq => exact News.isList lNf (.head _)
      case heq => exact (rfl : _ = rvs ++ [_])
      case hzq =>
        rw [sizeLine_eq]
        show rvs.length + 1 ≤ _
        rw [hrv.length]
        exact Nat.succ_le_succ (q3 (M := 16777215) hrn rfl)
      intro lz hC9 FC9 NC9 hlz
      (try dsimp only)
      (try k_fold)
      (try (with_reducible show wpAny _ _ _ _ _ _)); (try k_fold); (repeat' (first | ((fail_if_success (fail_if_success (with_reducible show wpAny _ _ (call (Value.builtin "list.pop") (_ :: _)) _ _ _))); (k_here; (with_reducible show wpAny _ _ (call (Value.builtin _) [Value.ref _, Value.int _ _]) _ _ _); k_dflt (refine' kl_popAt ?zqF ?zqN ?zqf ?zqk ?zqe ?zqU ?zqz ?_; (case zqF => k_asm); (case zqN => k_asm); (case zqU => k_upd); (case zqf => rfl); (case zqk => exact pop_k _ _); (case zqe => rfl); (case zqz => (rw [sizeLine_eq]; simp; first | assumption | omega))); kl_rest)) | ((fail_if_success (fail_if_success (with_reducible show wpAny _ _ (call (Value.ref _) (_ :: _)) _ _ _))); (k_here; k_dflt (first | (refine' law_row_c _ _ _ ?zqh0 _ _ _ _ _ _ _ _ _ _ _ _ _ _ _ _ _ _ _ _ _ _ _ ?zqk1 ?zqk2 ?zqk3 ?zqk4 ?zqk5 ?zqkK ?zqkd ?zqku ?_; (case zqk1 => k_asm); (case zqk2 => k_asm); (case zqk3 => k_asm); (case zqk4 => k_asm); (case zqk5 => k_asm); (case zqkK => first | exact rfl | assumption); (case zqh0 => assumption); (case zqkd => ktr_room); (case zqku => ktr_units); (intro x9 hro9 t9 h9 tk9 r9 e9 F9 N9; subst e9; (try dsimp only); (try k_fold))) | (refine' law_fitted_c _ _ _ _ _ _ _ ?zqhks ?zqhkl ?zqhx ?zqhxo ?zqhpt _ ?zqhmem _ _ _ _ _ _ _ _ _ _ _ _ _ _ _ _ _ _ _ _ _ _ ?zqk1 ?zqk2 ?zqk3 ?zqk4 ?zqk5 ?zqkK ?zqkd ?zqku ?_; (case zqk1 => k_asm); (case zqk2 => k_asm); (case zqk3 => k_asm); (case zqk4 => k_asm); (case zqk5 => k_asm); (case zqkK => first | exact rfl | assumption); (case zqhmem => k_mem); (case zqhks => assumption); (case zqhkl => assumption); (case zqhx => assumption); (case zqhxo => assumption); (case zqhpt => assumption); (case zqkd => ktr_room); (case zqku => ktr_units); refine ⟨fun hfv => ?zqfv1, fun ds9 hfv => ?zqfv2⟩; (case' zqfv1 => (refine Ret.use ?_; intro t9 h9 tk9 F9 N9; (try dsimp only); (try k_fold))); (case' zqfv2 => (intro vs9 n9 l9' h9 tk9 sa9 F9 N9 l9; (try k_lt l9); (try dsimp only); (try k_fold))))))) | (k_unfold; (try dsimp only)) | (k_end; wrow_close) | walk1 | (dsimp only; first | walk1 | (fail_if_success (fail_if_success (with_reducible show wpAny _ _ (call (Value.builtin "list.pop") (_ :: _)) _ _ _))) | (fail_if_success (fail_if_success (with_reducible show wpAny _ _ (call (Value.ref _) (_ :: _)) _ _ _)))) | (leave1; walk_say "STEP leave1"; try dsimp only) | fail "no step"))
      refine Stop.mk ?_
      rw [lrow] at hos4
      refine' eq_texts (xs := rws ++ [r2 ++ Str.ofString "L"]) (reads_newData ?haq ?hbq) (reads_newData ?hcq ?hdq) ?heq ?hfq ?_
      case haq => exact News.isList NC9 (.tail _ (.tail _ (.head _)))
      case hbq => exact strs_carried hos4
      case hcq => exact News.isList NC9 (.head _)
      case hdq => exact strs_carried (hrv.append' (.cons _ _ .nil))
      case heq =>
        intro z hz
        rcases List.mem_append.mp hz with hz | hz
        · exact hro z hz
        · rw [List.mem_singleton.mp hz]; exact ok_append hr2o (by decide +kernel)
      case hfq => exact (Mine.rm2 hu rfl : un + 3 + 64 < cLine)
      (try (with_reducible show wpAny _ _ _ _ _ _)); (try k_fold); (repeat' (first | ((fail_if_success (fail_if_success (with_reducible show wpAny _ _ (call (Value.builtin "list.pop") (_ :: _)) _ _ _))); (k_here; (with_reducible show wpAny _ _ (call (Value.builtin _) [Value.ref _, Value.int _ _]) _ _ _); k_dflt (refine' kl_popAt ?zqF ?zqN ?zqf ?zqk ?zqe ?zqU ?zqz ?_; (case zqF => k_asm); (case zqN => k_asm); (case zqU => k_upd); (case zqf => rfl); (case zqk => exact pop_k _ _); (case zqe => rfl); (case zqz => (rw [sizeLine_eq]; simp; first | assumption | omega))); kl_rest)) | ((fail_if_success (fail_if_success (with_reducible show wpAny _ _ (call (Value.ref _) (_ :: _)) _ _ _))); (k_here; k_dflt (first | (refine' law_row_c _ _ _ ?zqh0 _ _ _ _ _ _ _ _ _ _ _ _ _ _ _ _ _ _ _ _ _ _ _ ?zqk1 ?zqk2 ?zqk3 ?zqk4 ?zqk5 ?zqkK ?zqkd ?zqku ?_; (case zqk1 => k_asm); (case zqk2 => k_asm); (case zqk3 => k_asm); (case zqk4 => k_asm); (case zqk5 => k_asm); (case zqkK => first | exact rfl | assumption); (case zqh0 => assumption); (case zqkd => ktr_room); (case zqku => ktr_units); (intro x9 hro9 t9 h9 tk9 r9 e9 F9 N9; subst e9; (try dsimp only); (try k_fold))) | (refine' law_fitted_c _ _ _ _ _ _ _ ?zqhks ?zqhkl ?zqhx ?zqhxo ?zqhpt _ ?zqhmem _ _ _ _ _ _ _ _ _ _ _ _ _ _ _ _ _ _ _ _ _ _ ?zqk1 ?zqk2 ?zqk3 ?zqk4 ?zqk5 ?zqkK ?zqkd ?zqku ?_; (case zqk1 => k_asm); (case zqk2 => k_asm); (case zqk3 => k_asm); (case zqk4 => k_asm); (case zqk5 => k_asm); (case zqkK => first | exact rfl | assumption); (case zqhmem => k_mem); (case zqhks => assumption); (case zqhkl => assumption); (case zqhx => assumption); (case zqhxo => assumption); (case zqhpt => assumption); (case zqkd => ktr_room); (case zqku => ktr_units); refine ⟨fun hfv => ?zqfv1, fun ds9 hfv => ?zqfv2⟩; (case' zqfv1 => (refine Ret.use ?_; intro t9 h9 tk9 F9 N9; (try dsimp only); (try k_fold))); (case' zqfv2 => (intro vs9 n9 l9' h9 tk9 sa9 F9 N9 l9; (try k_lt l9); (try dsimp only); (try k_fold))))))) | (k_unfold; (try dsimp only)) | (k_end; wrow_close) | walk1 | (dsimp only; first | walk1 | (fail_if_success (fail_if_success (with_reducible show wpAny _ _ (call (Value.builtin "list.pop") (_ :: _)) _ _ _))) | (fail_if_success (fail_if_success (with_reducible show wpAny _ _ (call (Value.ref _) (_ :: _)) _ _ _)))) | (leave1; walk_say "STEP leave1"; try dsimp only) | fail "no step"))
      refine Stop.mk ?_
      rename (News _ _ _ (_ :: _)) => lNg
      refine' eq_texts (xs := []) (reads_newData (ys := []) ?haq ?hbq) (reads_newData (ys := []) ?hcq ?hdq) (List.forall_mem_nil _) ?hfq ?_
      case hbq => exact .nil
      case hdq => exact .nil
      case hfq => exact (Mine.rm2 hu rfl : un + 3 + 64 < cLine)
      case haq => exact News.isList lNg (.tail _ (.tail _ (.tail _ (.tail _ (.tail _ (.tail _ (.head _)))))))
      case hcq => exact News.isList lNg (.head _)
      (try (with_reducible show wpAny _ _ _ _ _ _)); (try k_fold); (repeat' (first | ((fail_if_success (fail_if_success (with_reducible show wpAny _ _ (call (Value.builtin "list.pop") (_ :: _)) _ _ _))); (k_here; (with_reducible show wpAny _ _ (call (Value.builtin _) [Value.ref _, Value.int _ _]) _ _ _); k_dflt (refine' kl_popAt ?zqF ?zqN ?zqf ?zqk ?zqe ?zqU ?zqz ?_; (case zqF => k_asm); (case zqN => k_asm); (case zqU => k_upd); (case zqf => rfl); (case zqk => exact pop_k _ _); (case zqe => rfl); (case zqz => (rw [sizeLine_eq]; simp; first | assumption | omega))); kl_rest)) | ((fail_if_success (fail_if_success (with_reducible show wpAny _ _ (call (Value.ref _) (_ :: _)) _ _ _))); (k_here; k_dflt (first | (refine' law_row_c _ _ _ ?zqh0 _ _ _ _ _ _ _ _ _ _ _ _ _ _ _ _ _ _ _ _ _ _ _ ?zqk1 ?zqk2 ?zqk3 ?zqk4 ?zqk5 ?zqkK ?zqkd ?zqku ?_; (case zqk1 => k_asm); (case zqk2 => k_asm); (case zqk3 => k_asm); (case zqk4 => k_asm); (case zqk5 => k_asm); (case zqkK => first | exact rfl | assumption); (case zqh0 => assumption); (case zqkd => ktr_room); (case zqku => ktr_units); (intro x9 hro9 t9 h9 tk9 r9 e9 F9 N9; subst e9; (try dsimp only); (try k_fold))) | (refine' law_fitted_c _ _ _ _ _ _ _ ?zqhks ?zqhkl ?zqhx ?zqhxo ?zqhpt _ ?zqhmem _ _ _ _ _ _ _ _ _ _ _ _ _ _ _ _ _ _ _ _ _ _ ?zqk1 ?zqk2 ?zqk3 ?zqk4 ?zqk5 ?zqkK ?zqkd ?zqku ?_; (case zqk1 => k_asm); (case zqk2 => k_asm); (case zqk3 => k_asm); (case zqk4 => k_asm); (case zqk5 => k_asm); (case zqkK => first | exact rfl | assumption); (case zqhmem => k_mem); (case zqhks => assumption); (case zqhkl => assumption); (case zqhx => assumption); (case zqhxo => assumption); (case zqhpt => assumption); (case zqkd => ktr_room); (case zqku => ktr_units); refine ⟨fun hfv => ?zqfv1, fun ds9 hfv => ?zqfv2⟩; (case' zqfv1 => (refine Ret.use ?_; intro t9 h9 tk9 F9 N9; (try dsimp only); (try k_fold))); (case' zqfv2 => (intro vs9 n9 l9' h9 tk9 sa9 F9 N9 l9; (try k_lt l9); (try dsimp only); (try k_fold))))))) | (k_unfold; (try dsimp only)) | (k_end; wrow_close) | walk1 | (dsimp only; first | walk1 | (fail_if_success (fail_if_success (with_reducible show wpAny _ _ (call (Value.builtin "list.pop") (_ :: _)) _ _ _))) | (fail_if_success (fail_if_success (with_reducible show wpAny _ _ (call (Value.ref _) (_ :: _)) _ _ _)))) | (leave1; walk_say "STEP leave1"; try dsimp only) | fail "no step"))
      rename (News h₀ _ _ (_ :: _ :: _)) => hNz
      exact hret 0 _ _ _ rfl (by k_asm) (ndrop (a := []) (b := [_, _, _, _, _, _, _, _, _, _, _, _, _]) hNz)
  | some q =>
    obtain ⟨dl, dvs, dn, dds⟩ := q
    obtain ⟨hdc, hdlt, hdR⟩ := hfo
    dsimp only [RfSt.led, RfSt.fv] at F7 N7
    dsimp only [Option.map] at hR7
    have NP := toFront (a := [_, _, _, _, _, _, _, _, _]) (toFront (a := [_, _, _, _, _, _, _, _, _]) (toFront (a := [_, _, _, _, _, _, _, _, _]) (toFront (a := [_, _, _, _]) (toFront (a := [_, _, _, _, _, _, _, _, _]) N7))))
    simp only [List.cons_append, List.nil_append, List.append_eq] at NP
    (try ((first | with_reducible refine foldW0 NP ?_ | with_reducible refine foldW1 NP ?_ | with_reducible refine foldW2 NP ?_ | with_reducible refine foldW3 NP ?_ | with_reducible refine foldW4 NP ?_ | with_reducible refine foldW5 NP ?_ | with_reducible refine foldW6 NP ?_ | with_reducible refine foldW7 NP ?_ | with_reducible refine foldW8 NP ?_); clear NP; intro NP))
    clear N7
    dsimp only at hdc hdlt hdR
    have hsh : SeqAt.shaped (.list dds) = true := ask_shaped xs hR7 (fun z hz => ⟨(hxs z hz).1, (hxs z hz).2.1⟩)
    have hl1 : @Ne Nat dl oa := Nat.ne_of_gt (hdlt (oa, _) (.tail _ (.tail _ (.tail _ (.tail _ (.tail _ (.head _)))))))
    have hl2 : @Ne Nat dl x := Nat.ne_of_gt (hdlt (x, _) (.tail _ (.tail _ (.tail _ (.tail _ (.tail _ (.tail _ (.head _))))))))
    have hl3 : @Ne Nat dl dx := Nat.ne_of_gt (hdlt (dx, _) (.tail _ (.tail _ (.tail _ (.tail _ (.tail _ (.tail _ (.tail _ (.head _)))))))))
    have hl4 : @Ne Nat dl ld := Nat.ne_of_gt (hdlt (ld, _) (.tail _ (.tail _ (.head _))))
    clear hdlt
    (try (with_reducible show wpAny _ _ _ _ _ _)); (try k_fold); (repeat' (first | ((fail_if_success (fail_if_success (with_reducible show wpAny _ _ (call (Value.builtin "list.pop") (_ :: _)) _ _ _))); (k_here; (with_reducible show wpAny _ _ (call (Value.builtin _) [Value.ref _, Value.int _ _]) _ _ _); k_dflt (refine' kl_popAt ?zqF ?zqN ?zqf ?zqk ?zqe ?zqU ?zqz ?_; (case zqF => k_asm); (case zqN => k_asm); (case zqU => k_upd); (case zqf => rfl); (case zqk => exact pop_k _ _); (case zqe => rfl); (case zqz => (rw [sizeLine_eq]; simp; first | assumption | omega))); kl_rest)) | ((fail_if_success (fail_if_success (with_reducible show wpAny _ _ (call (Value.ref _) (_ :: _)) _ _ _))); (k_here; k_dflt (first | (refine' law_row_c _ _ _ ?zqh0 _ _ _ _ _ _ _ _ _ _ _ _ _ _ _ _ _ _ _ _ _ _ _ ?zqk1 ?zqk2 ?zqk3 ?zqk4 ?zqk5 ?zqkK ?zqkd ?zqku ?_; (case zqk1 => k_asm); (case zqk2 => k_asm); (case zqk3 => k_asm); (case zqk4 => k_asm); (case zqk5 => k_asm); (case zqkK => first | exact rfl | assumption); (case zqh0 => assumption); (case zqkd => ktr_room); (case zqku => ktr_units); (intro x9 hro9 t9 h9 tk9 r9 e9 F9 N9; subst e9; (try dsimp only); (try k_fold))) | (refine' law_fitted_c _ _ _ _ _ _ _ ?zqhks ?zqhkl ?zqhx ?zqhxo ?zqhpt _ ?zqhmem _ _ _ _ _ _ _ _ _ _ _ _ _ _ _ _ _ _ _ _ _ _ ?zqk1 ?zqk2 ?zqk3 ?zqk4 ?zqk5 ?zqkK ?zqkd ?zqku ?_; (case zqk1 => k_asm); (case zqk2 => k_asm); (case zqk3 => k_asm); (case zqk4 => k_asm); (case zqk5 => k_asm); (case zqkK => first | exact rfl | assumption); (case zqhmem => k_mem); (case zqhks => assumption); (case zqhkl => assumption); (case zqhx => assumption); (case zqhxo => assumption); (case zqhpt => assumption); (case zqkd => ktr_room); (case zqku => ktr_units); refine ⟨fun hfv => ?zqfv1, fun ds9 hfv => ?zqfv2⟩; (case' zqfv1 => (refine Ret.use ?_; intro t9 h9 tk9 F9 N9; (try dsimp only); (try k_fold))); (case' zqfv2 => (intro vs9 n9 l9' h9 tk9 sa9 F9 N9 l9; (try k_lt l9); (try dsimp only); (try k_fold))))))) | (k_unfold; (try dsimp only)) | (k_end; wrow_close) | walk1 | (dsimp only; first | walk1 | (fail_if_success (fail_if_success (with_reducible show wpAny _ _ (call (Value.builtin "list.pop") (_ :: _)) _ _ _))) | (fail_if_success (fail_if_success (with_reducible show wpAny _ _ (call (Value.ref _) (_ :: _)) _ _ _)))) | (leave1; walk_say "STEP leave1"; try dsimp only) | fail "no step"))
    rename (News _ _ _ _) => lNa
    refine' ask_values_c _ _ _ ?hpv _ _ _ _ _ _ _ _ _ ?hos _ _ ?hrl ?hrok _ _ _ ?hes _ _ ?hiv ?hol ?hxs _ _ _ ?hks ?hkl _ _ ?d1 ?d2 ?d3 ?d7 ?d8 ?d9 ?d11 ?d12 ?d13 ?d14 ?d4 ?d5 ?d6 ?d10 _ _ _ _ _ _ _ _ _ _ _ _ _ _ _ _ _ _ _ _ _ _ ?k1 ?k2 ?k3 ?k4 ?k5 ?kK ?kd ?ku ?_
    case k1 => k_asm
    case k2 => k_asm
    case k3 => k_asm
    case k4 => exact lNa
    case k5 => k_asm
    case kK => exact rfl
    case hes => exact WD.ent
    case hpv => exact hpv
    case hos => exact .nil
    case hrl => first | exact Nat.le_trans hrl (by decide) | omega
    case hrok => exact hrok
    case hiv => exact hys
    case hol => exact Nat.le_trans (q10 hxl6) (by decide)
    case hxs => exact fun z hz => ⟨(hxs z hz).1, (hxs z hz).2.1⟩
    case hks => exact hks
    case hkl => exact hkl
    case d1 => k_ne
    case d2 => k_ne
    case d3 => k_ne
    case d7 => k_ne
    case d8 => k_ne
    case d9 => k_ne
    case d11 => k_ne
    case d12 => k_ne
    case d13 => k_ne
    case d14 => k_ne
    case d4 => exact List.forall_mem_cons.mpr ⟨by k_ne, List.forall_mem_cons.mpr ⟨by k_ne, List.forall_mem_cons.mpr ⟨by k_ne, List.forall_mem_cons.mpr ⟨by k_ne, List.forall_mem_cons.mpr ⟨by k_ne, List.forall_mem_cons.mpr ⟨by k_ne, hn1⟩⟩⟩⟩⟩⟩
    case d5 => exact List.forall_mem_cons.mpr ⟨by k_ne, List.forall_mem_cons.mpr ⟨by k_ne, List.forall_mem_cons.mpr ⟨by k_ne, List.forall_mem_cons.mpr ⟨by k_ne, List.forall_mem_cons.mpr ⟨by k_ne, List.forall_mem_cons.mpr ⟨by k_ne, hn2⟩⟩⟩⟩⟩⟩
    case d6 => exact List.forall_mem_cons.mpr ⟨by k_ne, List.forall_mem_cons.mpr ⟨by k_ne, List.forall_mem_cons.mpr ⟨by k_ne, List.forall_mem_cons.mpr ⟨by k_ne, List.forall_mem_cons.mpr ⟨by k_ne, List.forall_mem_cons.mpr ⟨by k_ne, hn3⟩⟩⟩⟩⟩⟩
    case d10 => exact List.forall_mem_cons.mpr ⟨by k_ne, List.forall_mem_cons.mpr ⟨by k_ne, List.forall_mem_cons.mpr ⟨by k_ne, List.forall_mem_cons.mpr ⟨by k_ne, List.forall_mem_cons.mpr ⟨by k_ne, List.forall_mem_cons.mpr ⟨by k_ne, hn4⟩⟩⟩⟩⟩⟩
    case kd => ktr_room
    case ku => ktr_units

    refine ⟨fun ds os2 xs2 hh => ?_, fun os2 hh => ?_⟩
    · rw [hR7] at hh
      obtain ⟨rfl, rfl, rfl⟩ : dds = ds ∧ rws = os2 ∧ lxs = xs2 := by simpa using hh
      intro h8 tk8 fl vs2 n2 ovs2 on2 es2 t2 ivs2 inn2 hcar2 hos2 hiv2 hes2 hflt FG8 NG8
      obtain ⟨r2, hr2e⟩ : ∃ r2, r2 = Str.ofString "" := ⟨_, rfl⟩
      rw [← hr2e] at hes2
      have hr2l : r2.length ≤ 50 := by rw [hr2e]; decide
      have hr2o : PyData.strOk r2 = true := by rw [hr2e]; decide +kernel
      clear hr2e hflt
      obtain ⟨T2, U2, rfl⟩ := hes2.ex
      dsimp only [wChunk] at NG8 ⊢
      (try k_fold)
      (try (with_reducible show wpAny _ _ _ _ _ _)); (try k_fold); (repeat' (first | ((fail_if_success (fail_if_success (with_reducible show wpAny _ _ (call (Value.builtin "list.pop") (_ :: _)) _ _ _))); (k_here; (with_reducible show wpAny _ _ (call (Value.builtin _) [Value.ref _, Value.int _ _]) _ _ _); k_dflt (refine' kl_popAt ?zqF ?zqN ?zqf ?zqk ?zqe ?zqU ?zqz ?_; (case zqF => k_asm); (case zqN => k_asm); (case zqU => k_upd); (case zqf => rfl); (case zqk => exact pop_k _ _); (case zqe => rfl); (case zqz => (rw [sizeLine_eq]; simp; first | assumption | omega))); kl_rest)) | ((fail_if_success (fail_if_success (with_reducible show wpAny _ _ (call (Value.ref _) (_ :: _)) _ _ _))); (k_here; k_dflt (first | (refine' law_row_c _ _ _ ?zqh0 _ _ _ _ _ _ _ _ _ _ _ _ _ _ _ _ _ _ _ _ _ _ _ ?zqk1 ?zqk2 ?zqk3 ?zqk4 ?zqk5 ?zqkK ?zqkd ?zqku ?_; (case zqk1 => k_asm); (case zqk2 => k_asm); (case zqk3 => k_asm); (case zqk4 => k_asm); (case zqk5 => k_asm); (case zqkK => first | exact rfl | assumption); (case zqh0 => assumption); (case zqkd => ktr_room); (case zqku => ktr_units); (intro x9 hro9 t9 h9 tk9 r9 e9 F9 N9; subst e9; (try dsimp only); (try k_fold))) | (refine' law_fitted_c _ _ _ _ _ _ _ ?zqhks ?zqhkl ?zqhx ?zqhxo ?zqhpt _ ?zqhmem _ _ _ _ _ _ _ _ _ _ _ _ _ _ _ _ _ _ _ _ _ _ ?zqk1 ?zqk2 ?zqk3 ?zqk4 ?zqk5 ?zqkK ?zqkd ?zqku ?_; (case zqk1 => k_asm); (case zqk2 => k_asm); (case zqk3 => k_asm); (case zqk4 => k_asm); (case zqk5 => k_asm); (case zqkK => first | exact rfl | assumption); (case zqhmem => k_mem); (case zqhks => assumption); (case zqhkl => assumption); (case zqhx => assumption); (case zqhxo => assumption); (case zqhpt => assumption); (case zqkd => ktr_room); (case zqku => ktr_units); refine ⟨fun hfv => ?zqfv1, fun ds9 hfv => ?zqfv2⟩; (case' zqfv1 => (refine Ret.use ?_; intro t9 h9 tk9 F9 N9; (try dsimp only); (try k_fold))); (case' zqfv2 => (intro vs9 n9 l9' h9 tk9 sa9 F9 N9 l9; (try k_lt l9); (try dsimp only); (try k_fold))))))) | (k_unfold; (try dsimp only)) | (k_end; wrow_close) | walk1 | (dsimp only; first | walk1 | (fail_if_success (fail_if_success (with_reducible show wpAny _ _ (call (Value.builtin "list.pop") (_ :: _)) _ _ _))) | (fail_if_success (fail_if_success (with_reducible show wpAny _ _ (call (Value.ref _) (_ :: _)) _ _ _)))) | (leave1; walk_say "STEP leave1"; try dsimp only) | fail "no step"))
      refine Stop.mk ?_
      rename (News _ _ _ (_ :: _)) => lNb
      refine' ne_data (ds := dds) (reads_newData ?haq ?hbq) (reads_newData ?hcq ?hdq) hsh ?hfq ?_
      case haq => exact News.isList lNb (.head _)
      case hbq => exact hcar2
      case hcq => exact News.isList lNb (.tail _ (.tail _ (.tail _ (.tail _ (.tail _ (.tail _ (.head _)))))))
      case hdq => exact hdc
      case hfq => exact (Mine.rm2 hu rfl : un + 3 + 64 < cLine)
      (try (with_reducible show wpAny _ _ _ _ _ _)); (try k_fold); (repeat' (first | ((fail_if_success (fail_if_success (with_reducible show wpAny _ _ (call (Value.builtin "list.pop") (_ :: _)) _ _ _))); (k_here; (with_reducible show wpAny _ _ (call (Value.builtin _) [Value.ref _, Value.int _ _]) _ _ _); k_dflt (refine' kl_popAt ?zqF ?zqN ?zqf ?zqk ?zqe ?zqU ?zqz ?_; (case zqF => k_asm); (case zqN => k_asm); (case zqU => k_upd); (case zqf => rfl); (case zqk => exact pop_k _ _); (case zqe => rfl); (case zqz => (rw [sizeLine_eq]; simp; first | assumption | omega))); kl_rest)) | ((fail_if_success (fail_if_success (with_reducible show wpAny _ _ (call (Value.ref _) (_ :: _)) _ _ _))); (k_here; k_dflt (first | (refine' law_row_c _ _ _ ?zqh0 _ _ _ _ _ _ _ _ _ _ _ _ _ _ _ _ _ _ _ _ _ _ _ ?zqk1 ?zqk2 ?zqk3 ?zqk4 ?zqk5 ?zqkK ?zqkd ?zqku ?_; (case zqk1 => k_asm); (case zqk2 => k_asm); (case zqk3 => k_asm); (case zqk4 => k_asm); (case zqk5 => k_asm); (case zqkK => first | exact rfl | assumption); (case zqh0 => assumption); (case zqkd => ktr_room); (case zqku => ktr_units); (intro x9 hro9 t9 h9 tk9 r9 e9 F9 N9; subst e9; (try dsimp only); (try k_fold))) | (refine' law_fitted_c _ _ _ _ _ _ _ ?zqhks ?zqhkl ?zqhx ?zqhxo ?zqhpt _ ?zqhmem _ _ _ _ _ _ _ _ _ _ _ _ _ _ _ _ _ _ _ _ _ _ ?zqk1 ?zqk2 ?zqk3 ?zqk4 ?zqk5 ?zqkK ?zqkd ?zqku ?_; (case zqk1 => k_asm); (case zqk2 => k_asm); (case zqk3 => k_asm); (case zqk4 => k_asm); (case zqk5 => k_asm); (case zqkK => first | exact rfl | assumption); (case zqhmem => k_mem); (case zqhks => assumption); (case zqhkl => assumption); (case zqhx => assumption); (case zqhxo => assumption); (case zqhpt => assumption); (case zqkd => ktr_room); (case zqku => ktr_units); refine ⟨fun hfv => ?zqfv1, fun ds9 hfv => ?zqfv2⟩; (case' zqfv1 => (refine Ret.use ?_; intro t9 h9 tk9 F9 N9; (try dsimp only); (try k_fold))); (case' zqfv2 => (intro vs9 n9 l9' h9 tk9 sa9 F9 N9 l9; (try k_lt l9); (try dsimp only); (try k_fold))))))) | (k_unfold; (try dsimp only)) | (k_end; wrow_close) | walk1 | (dsimp only; first | walk1 | (fail_if_success (fail_if_success (with_reducible show wpAny _ _ (call (Value.builtin "list.pop") (_ :: _)) _ _ _))) | (fail_if_success (fail_if_success (with_reducible show wpAny _ _ (call (Value.ref _) (_ :: _)) _ _ _)))) | (leave1; walk_say "STEP leave1"; try dsimp only) | fail "no step"))
      refine Stop.mk ?_
      refine' ne_texts (xs := rws) (reads_newData ?haq ?hbq) (reads_newData ?hcq ?hdq) hro ?hfq ?_
      case haq => exact News.isList lNb (.tail _ (.head _))
      case hbq => exact strs_carried hos2
      case hcq => exact News.isList lNb (.tail _ (.tail _ (.tail _ (.tail _ (.tail _ (.tail _ (.tail _ (.head _))))))))
      case hdq => exact strs_carried hrv
      case hfq => exact (Mine.rm2 hu rfl : un + 3 + 64 < cLine)
      (try (with_reducible show wpAny _ _ _ _ _ _)); (try k_fold); (repeat' (first | ((fail_if_success (fail_if_success (with_reducible show wpAny _ _ (call (Value.builtin "list.pop") (_ :: _)) _ _ _))); (k_here; (with_reducible show wpAny _ _ (call (Value.builtin _) [Value.ref _, Value.int _ _]) _ _ _); k_dflt (refine' kl_popAt ?zqF ?zqN ?zqf ?zqk ?zqe ?zqU ?zqz ?_; (case zqF => k_asm); (case zqN => k_asm); (case zqU => k_upd); (case zqf => rfl); (case zqk => exact pop_k _ _); (case zqe => rfl); (case zqz => (rw [sizeLine_eq]; simp; first | assumption | omega))); kl_rest)) | ((fail_if_success (fail_if_success (with_reducible show wpAny _ _ (call (Value.ref _) (_ :: _)) _ _ _))); (k_here; k_dflt (first | (refine' law_row_c _ _ _ ?zqh0 _ _ _ _ _ _ _ _ _ _ _ _ _ _ _ _ _ _ _ _ _ _ _ ?zqk1 ?zqk2 ?zqk3 ?zqk4 ?zqk5 ?zqkK ?zqkd ?zqku ?_; (case zqk1 => k_asm); (case zqk2 => k_asm); (case zqk3 => k_asm); (case zqk4 => k_asm); (case zqk5 => k_asm); (case zqkK => first | exact rfl | assumption); (case zqh0 => assumption); (case zqkd => ktr_room); (case zqku => ktr_units); (intro x9 hro9 t9 h9 tk9 r9 e9 F9 N9; subst e9; (try dsimp only); (try k_fold))) | (refine' law_fitted_c _ _ _ _ _ _ _ ?zqhks ?zqhkl ?zqhx ?zqhxo ?zqhpt _ ?zqhmem _ _ _ _ _ _ _ _ _ _ _ _ _ _ _ _ _ _ _ _ _ _ ?zqk1 ?zqk2 ?zqk3 ?zqk4 ?zqk5 ?zqkK ?zqkd ?zqku ?_; (case zqk1 => k_asm); (case zqk2 => k_asm); (case zqk3 => k_asm); (case zqk4 => k_asm); (case zqk5 => k_asm); (case zqkK => first | exact rfl | assumption); (case zqhmem => k_mem); (case zqhks => assumption); (case zqhkl => assumption); (case zqhx => assumption); (case zqhxo => assumption); (case zqhpt => assumption); (case zqkd => ktr_room); (case zqku => ktr_units); refine ⟨fun hfv => ?zqfv1, fun ds9 hfv => ?zqfv2⟩; (case' zqfv1 => (refine Ret.use ?_; intro t9 h9 tk9 F9 N9; (try dsimp only); (try k_fold))); (case' zqfv2 => (intro vs9 n9 l9' h9 tk9 sa9 F9 N9 l9; (try k_lt l9); (try dsimp only); (try k_fold))))))) | (k_unfold; (try dsimp only)) | (k_end; wrow_close) | walk1 | (dsimp only; first | walk1 | (fail_if_success (fail_if_success (with_reducible show wpAny _ _ (call (Value.builtin "list.pop") (_ :: _)) _ _ _))) | (fail_if_success (fail_if_success (with_reducible show wpAny _ _ (call (Value.ref _) (_ :: _)) _ _ _)))) | (leave1; walk_say "STEP leave1"; try dsimp only) | fail "no step"))
      refine Stop.mk ?_
      refine' ne_texts (xs := lxs) (reads_newData ?haq ?hbq) (reads_newData ?hcq ?hdq) (fun z hz => (hlo z hz).2.1) ?hfq ?_
      case haq => exact News.isList lNb (.tail _ (.tail _ (.tail _ (.tail _ (.head _)))))
      case hbq => exact strs_carried hiv2
      case hcq => exact News.isList lNb (.tail _ (.tail _ (.tail _ (.tail _ (.tail _ (.tail _ (.tail _ (.tail _ (.head _)))))))))
      case hdq => exact strs_carried hlv
      case hfq => exact (Mine.rm2 hu rfl : un + 3 + 64 < cLine)
      have lNh := ndrop (a := [_, _, _, _, _]) (b := [_]) (ndrop (a := []) (b := [_]) lNb)
      simp only [List.cons_append, List.nil_append, List.append_eq] at lNh
      (try ((first | with_reducible refine foldW0 lNh ?_ | with_reducible refine foldW1 lNh ?_ | with_reducible refine foldW2 lNh ?_ | with_reducible refine foldW3 lNh ?_ | with_reducible refine foldW4 lNh ?_ | with_reducible refine foldW5 lNh ?_ | with_reducible refine foldW6 lNh ?_ | with_reducible refine foldW7 lNh ?_ | with_reducible refine foldW8 lNh ?_); clear lNh; intro lNh))
      clear lNb
      (try (with_reducible show wpAny _ _ _ _ _ _)); (try k_fold); (repeat' (first | ((fail_if_success (fail_if_success (with_reducible show wpAny _ _ (call (Value.builtin "list.pop") (_ :: _)) _ _ _))); (k_here; (with_reducible show wpAny _ _ (call (Value.builtin _) [Value.ref _, Value.int _ _]) _ _ _); k_dflt (refine' kl_popAt ?zqF ?zqN ?zqf ?zqk ?zqe ?zqU ?zqz ?_; (case zqF => k_asm); (case zqN => k_asm); (case zqU => k_upd); (case zqf => rfl); (case zqk => exact pop_k _ _); (case zqe => rfl); (case zqz => (rw [sizeLine_eq]; simp; first | assumption | omega))); kl_rest)) | ((fail_if_success (fail_if_success (with_reducible show wpAny _ _ (call (Value.ref _) (_ :: _)) _ _ _))); (k_here; k_dflt (first | (refine' law_row_c _ _ _ ?zqh0 _ _ _ _ _ _ _ _ _ _ _ _ _ _ _ _ _ _ _ _ _ _ _ ?zqk1 ?zqk2 ?zqk3 ?zqk4 ?zqk5 ?zqkK ?zqkd ?zqku ?_; (case zqk1 => k_asm); (case zqk2 => k_asm); (case zqk3 => k_asm); (case zqk4 => k_asm); (case zqk5 => k_asm); (case zqkK => first | exact rfl | assumption); (case zqh0 => assumption); (case zqkd => ktr_room); (case zqku => ktr_units); (intro x9 hro9 t9 h9 tk9 r9 e9 F9 N9; subst e9; (try dsimp only); (try k_fold))) | (refine' law_fitted_c _ _ _ _ _ _ _ ?zqhks ?zqhkl ?zqhx ?zqhxo ?zqhpt _ ?zqhmem _ _ _ _ _ _ _ _ _ _ _ _ _ _ _ _ _ _ _ _ _ _ ?zqk1 ?zqk2 ?zqk3 ?zqk4 ?zqk5 ?zqkK ?zqkd ?zqku ?_; (case zqk1 => k_asm); (case zqk2 => k_asm); (case zqk3 => k_asm); (case zqk4 => k_asm); (case zqk5 => k_asm); (case zqkK => first | exact rfl | assumption); (case zqhmem => k_mem); (case zqhks => assumption); (case zqhkl => assumption); (case zqhx => assumption); (case zqhxo => assumption); (case zqhpt => assumption); (case zqkd => ktr_room); (case zqku => ktr_units); refine ⟨fun hfv => ?zqfv1, fun ds9 hfv => ?zqfv2⟩; (case' zqfv1 => (refine Ret.use ?_; intro t9 h9 tk9 F9 N9; (try dsimp only); (try k_fold))); (case' zqfv2 => (intro vs9 n9 l9' h9 tk9 sa9 F9 N9 l9; (try k_lt l9); (try dsimp only); (try k_fold))))))) | ((with_reducible show wpAny _ _ (setAttr (Value.ref _) (Str.ofString "row") _) _ _ _); k_here; k_dflt (refine' setW_row ?zk1 ?zk2 ?zk3 ?zk4 ?zk5 ?zk6 ?zk7 ?zk8 ?zk9 ?zk12 ?_; (case zk1 => k_asm); (case zk2 => k_asm); (case zk3 => k_asm); (case zk4 => k_inst); (case zk5 => exact rfl); (case zk6 => k_is); (case zk7 => k_is); (case zk8 => k_is); (case zk9 => k_is); (case zk12 => k_upd); k_whole; intro h' F' N'; (try k_sweep))) | ((with_reducible show wpAny _ _ (setAttr (Value.ref _) (Str.ofString "inputs") _) _ _ _); k_here; k_dflt (refine' setW_inputs ?zk1 ?zk2 ?zk3 ?zk4 ?zk5 ?zk6 ?zk7 ?zk8 ?zk9 ?zk12 ?_; (case zk1 => k_asm); (case zk2 => k_asm); (case zk3 => k_asm); (case zk4 => k_inst); (case zk5 => exact rfl); (case zk6 => k_is); (case zk7 => k_is); (case zk8 => k_is); (case zk9 => k_is); (case zk12 => k_upd); k_whole; intro h' F' N'; (try k_sweep))) | (k_unfold; (try dsimp only)) | (k_end; wrow_close) | walk1 | (dsimp only; first | walk1 | (fail_if_success (fail_if_success (with_reducible show wpAny _ _ (call (Value.builtin "list.pop") (_ :: _)) _ _ _))) | (fail_if_success (fail_if_success (with_reducible show wpAny _ _ (call (Value.ref _) (_ :: _)) _ _ _)))) | (leave1; walk_say "STEP leave1"; try dsimp only) | fail "no step"))
      rename (@LT.lt Nat _ oa _ ∧ _) => hq3
      refine nameLt hq3 ?_
      intro li e
      subst e
      rename (News _ _ _ (_ :: _)) => lNc
      have lNd := toFront (a := [_, _, _]) (toFront (a := [_, _, _]) (toFront (a := [_, _, _]) lNc))
      simp only [List.cons_append, List.nil_append, List.append_eq] at lNd
      (try ((first | with_reducible refine foldW0 lNd ?_ | with_reducible refine foldW1 lNd ?_ | with_reducible refine foldW2 lNd ?_ | with_reducible refine foldW3 lNd ?_ | with_reducible refine foldW4 lNd ?_ | with_reducible refine foldW5 lNd ?_ | with_reducible refine foldW6 lNd ?_ | with_reducible refine foldW7 lNd ?_ | with_reducible refine foldW8 lNd ?_); clear lNd; intro lNd))
      clear lNc
      have hn5 : ∀ p ∈ news, p.1 ≠ li := tbn_neAll hq3.2.2.2.2.2.2.2.2.2.2
      have hwl9 := wrote_len (pRow r2 (Str.ofString "L") false) rws
      (try dsimp only)
      (try k_fold)
      refine' ask_line_c _ _ _ ?hpv _ _ _ _ _ _ _ ?hos ?hol _ _ ?hrl _ _ _ ?hes _ _ ?hx0 _ _ ?hiv ?hil _ _ ?d1 ?d2 ?d3 ?d7 ?d8 ?d9 ?d4 ?d5 ?d6 ?d10 _ _ _ _ _ _ _ _ _ _ _ _ _ _ _ _ _ _ _ _ _ _ ?k1 ?k2 ?k3 ?k4 ?k5 ?kK ?kd ?ku ?_
      case k1 => k_asm
      case k2 => k_asm
      case k3 => k_asm
      case k4 => exact lNd
      case k5 => k_asm
      case kK => exact rfl
      case hes => exact WD.ent
      case hpv => exact PrV.text (Str.ofString "L") _ (by decide) (by decide +kernel)
      case hos => exact hos2
      case hol => first | exact q3 hrn rfl | exact Nat.le_trans hwl9 (Nat.succ_le_succ (q3 (M := 99) hrn rfl)) | omega
      case hrl => first | decide | exact Nat.le_trans hr2l (by decide) | omega
      case hx0 => decide
      case hiv => exact StrsAre.cons _ _ .nil
      case hil => decide
      case d1 => k_ne
      case d2 => k_ne
      case d3 => k_ne
      case d7 => k_ne
      case d8 => k_ne
      case d9 => k_ne
      case d4 => exact List.forall_mem_cons.mpr ⟨by k_ne, List.forall_mem_cons.mpr ⟨by k_ne, List.forall_mem_cons.mpr ⟨by k_ne, List.forall_mem_cons.mpr ⟨by k_ne, List.forall_mem_cons.mpr ⟨by k_ne, List.forall_mem_cons.mpr ⟨by k_ne, List.forall_mem_cons.mpr ⟨by k_ne, hn1⟩⟩⟩⟩⟩⟩⟩
      case d5 => exact List.forall_mem_cons.mpr ⟨by k_ne, List.forall_mem_cons.mpr ⟨by k_ne, List.forall_mem_cons.mpr ⟨by k_ne, List.forall_mem_cons.mpr ⟨by k_ne, List.forall_mem_cons.mpr ⟨by k_ne, List.forall_mem_cons.mpr ⟨by k_ne, List.forall_mem_cons.mpr ⟨by k_ne, hn2⟩⟩⟩⟩⟩⟩⟩
      case d6 => exact List.forall_mem_cons.mpr ⟨by k_ne, List.forall_mem_cons.mpr ⟨by k_ne, List.forall_mem_cons.mpr ⟨by k_ne, List.forall_mem_cons.mpr ⟨by k_ne, List.forall_mem_cons.mpr ⟨by k_ne, List.forall_mem_cons.mpr ⟨by k_ne, List.forall_mem_cons.mpr ⟨by k_ne, hn3⟩⟩⟩⟩⟩⟩⟩
      case d10 => exact List.forall_mem_cons.mpr ⟨by k_ne, List.forall_mem_cons.mpr ⟨by k_ne, List.forall_mem_cons.mpr ⟨by k_ne, List.forall_mem_cons.mpr ⟨by k_ne, List.forall_mem_cons.mpr ⟨by k_ne, List.forall_mem_cons.mpr ⟨by k_ne, List.forall_mem_cons.mpr ⟨by k_ne, hn5⟩⟩⟩⟩⟩⟩⟩
      case kd => ktr_room
      case ku => ktr_units

      intro h9 tk9 v9 ovs3 on3 es3 t3 inn3 hv9 hos3 hes3 FG9 NG9
      subst hv9
      obtain ⟨T3, U3, rfl⟩ := hes3.ex
      dsimp only [wChunk] at NG9
      (try dsimp only)
      (try k_fold)
      (try (with_reducible show wpAny _ _ _ _ _ _)); (try k_fold); (repeat' (first | ((fail_if_success (fail_if_success (with_reducible show wpAny _ _ (call (Value.builtin "list.pop") (_ :: _)) _ _ _))); (k_here; (with_reducible show wpAny _ _ (call (Value.builtin _) [Value.ref _, Value.int _ _]) _ _ _); k_dflt (refine' kl_popAt ?zqF ?zqN ?zqf ?zqk ?zqe ?zqU ?zqz ?_; (case zqF => k_asm); (case zqN => k_asm); (case zqU => k_upd); (case zqf => rfl); (case zqk => exact pop_k _ _); (case zqe => rfl); (case zqz => (rw [sizeLine_eq]; simp; first | assumption | omega))); kl_rest)) | ((fail_if_success (fail_if_success (with_reducible show wpAny _ _ (call (Value.ref _) (_ :: _)) _ _ _))); (k_here; k_dflt (first | (refine' law_row_c _ _ _ ?zqh0 _ _ _ _ _ _ _ _ _ _ _ _ _ _ _ _ _ _ _ _ _ _ _ ?zqk1 ?zqk2 ?zqk3 ?zqk4 ?zqk5 ?zqkK ?zqkd ?zqku ?_; (case zqk1 => k_asm); (case zqk2 => k_asm); (case zqk3 => k_asm); (case zqk4 => k_asm); (case zqk5 => k_asm); (case zqkK => first | exact rfl | assumption); (case zqh0 => assumption); (case zqkd => ktr_room); (case zqku => ktr_units); (intro x9 hro9 t9 h9 tk9 r9 e9 F9 N9; subst e9; (try dsimp only); (try k_fold))) | (refine' law_fitted_c _ _ _ _ _ _ _ ?zqhks ?zqhkl ?zqhx ?zqhxo ?zqhpt _ ?zqhmem _ _ _ _ _ _ _ _ _ _ _ _ _ _ _ _ _ _ _ _ _ _ ?zqk1 ?zqk2 ?zqk3 ?zqk4 ?zqk5 ?zqkK ?zqkd ?zqku ?_; (case zqk1 => k_asm); (case zqk2 => k_asm); (case zqk3 => k_asm); (case zqk4 => k_asm); (case zqk5 => k_asm); (case zqkK => first | exact rfl | assumption); (case zqhmem => k_mem); (case zqhks => assumption); (case zqhkl => assumption); (case zqhx => assumption); (case zqhxo => assumption); (case zqhpt => assumption); (case zqkd => ktr_room); (case zqku => ktr_units); refine ⟨fun hfv => ?zqfv1, fun ds9 hfv => ?zqfv2⟩; (case' zqfv1 => (refine Ret.use ?_; intro t9 h9 tk9 F9 N9; (try dsimp only); (try k_fold))); (case' zqfv2 => (intro vs9 n9 l9' h9 tk9 sa9 F9 N9 l9; (try k_lt l9); (try dsimp only); (try k_fold))))))) | (k_unfold; (try dsimp only)) | (k_end; wrow_close) | walk1 | (dsimp only; first | walk1 | (fail_if_success (fail_if_success (with_reducible show wpAny _ _ (call (Value.builtin "list.pop") (_ :: _)) _ _ _))) | (fail_if_success (fail_if_success (with_reducible show wpAny _ _ (call (Value.ref _) (_ :: _)) _ _ _)))) | (leave1; walk_say "STEP leave1"; try dsimp only) | fail "no step"))
      rename (News _ _ _ (_ :: _)) => lNe
      refine' ask_line_c _ _ _ ?hpv _ _ _ _ _ _ _ ?hos ?hol _ _ ?hrl _ _ _ ?hes _ _ ?hx0 _ _ ?hiv ?hil _ _ ?d1 ?d2 ?d3 ?d7 ?d8 ?d9 ?d4 ?d5 ?d6 ?d10 _ _ _ _ _ _ _ _ _ _ _ _ _ _ _ _ _ _ _ _ _ _ ?k1 ?k2 ?k3 ?k4 ?k5 ?kK ?kd ?ku ?_
      case k1 => k_asm
      case k2 => k_asm
      case k3 => k_asm
      case k4 => exact lNe
      case k5 => k_asm
      case kK => exact rfl
      case hes => exact WD.ent
      case hpv => exact PrV.no
      case hos => exact hos3
      case hol => first | exact q3 hrn rfl | exact Nat.le_trans hwl9 (Nat.succ_le_succ (q3 (M := 99) hrn rfl)) | omega
      case hrl => first | decide | exact Nat.le_trans hr2l (by decide) | omega
      case hx0 => decide
      case hiv => exact StrsAre.nil
      case hil => decide
      case d1 => k_ne
      case d2 => k_ne
      case d3 => k_ne
      case d7 => k_ne
      case d8 => k_ne
      case d9 => k_ne
      case d4 => exact List.forall_mem_cons.mpr ⟨by k_ne, List.forall_mem_cons.mpr ⟨by k_ne, List.forall_mem_cons.mpr ⟨by k_ne, List.forall_mem_cons.mpr ⟨by k_ne, List.forall_mem_cons.mpr ⟨by k_ne, List.forall_mem_cons.mpr ⟨by k_ne, List.forall_mem_cons.mpr ⟨by k_ne, hn1⟩⟩⟩⟩⟩⟩⟩
      case d5 => exact List.forall_mem_cons.mpr ⟨by k_ne, List.forall_mem_cons.mpr ⟨by k_ne, List.forall_mem_cons.mpr ⟨by k_ne, List.forall_mem_cons.mpr ⟨by k_ne, List.forall_mem_cons.mpr ⟨by k_ne, List.forall_mem_cons.mpr ⟨by k_ne, List.forall_mem_cons.mpr ⟨by k_ne, hn2⟩⟩⟩⟩⟩⟩⟩
      case d6 => exact List.forall_mem_cons.mpr ⟨by k_ne, List.forall_mem_cons.mpr ⟨by k_ne, List.forall_mem_cons.mpr ⟨by k_ne, List.forall_mem_cons.mpr ⟨by k_ne, List.forall_mem_cons.mpr ⟨by k_ne, List.forall_mem_cons.mpr ⟨by k_ne, List.forall_mem_cons.mpr ⟨by k_ne, hn3⟩⟩⟩⟩⟩⟩⟩
      case d10 => exact List.forall_mem_cons.mpr ⟨by k_ne, List.forall_mem_cons.mpr ⟨by k_ne, List.forall_mem_cons.mpr ⟨by k_ne, List.forall_mem_cons.mpr ⟨by k_ne, List.forall_mem_cons.mpr ⟨by k_ne, List.forall_mem_cons.mpr ⟨by k_ne, List.forall_mem_cons.mpr ⟨by k_ne, hn5⟩⟩⟩⟩⟩⟩⟩
      case kd => ktr_room
      case ku => ktr_units

      intro hB tkB vB ovs4 on4 es4 t4 inn4 hvB hos4 hes4 FGB NGB
      subst hvB
      obtain ⟨T4, U4, rfl⟩ := hes4.ex
      dsimp only [wChunk] at NGB
      (try dsimp only)
      (try k_fold)
      (try (with_reducible show wpAny _ _ _ _ _ _)); (try k_fold); (repeat' (first | ((fail_if_success (fail_if_success (with_reducible show wpAny _ _ (call (Value.builtin "list.pop") (_ :: _)) _ _ _))); (k_here; (with_reducible show wpAny _ _ (call (Value.builtin _) [Value.ref _, Value.int _ _]) _ _ _); k_dflt (refine' kl_popAt ?zqF ?zqN ?zqf ?zqk ?zqe ?zqU ?zqz ?_; (case zqF => k_asm); (case zqN => k_asm); (case zqU => k_upd); (case zqf => rfl); (case zqk => exact pop_k _ _); (case zqe => rfl); (case zqz => (rw [sizeLine_eq]; simp; first | assumption | omega))); kl_rest)) | ((fail_if_success (fail_if_success (with_reducible show wpAny _ _ (call (Value.ref _) (_ :: _)) _ _ _))); (k_here; k_dflt (first | (refine' law_row_c _ _ _ ?zqh0 _ _ _ _ _ _ _ _ _ _ _ _ _ _ _ _ _ _ _ _ _ _ _ ?zqk1 ?zqk2 ?zqk3 ?zqk4 ?zqk5 ?zqkK ?zqkd ?zqku ?_; (case zqk1 => k_asm); (case zqk2 => k_asm); (case zqk3 => k_asm); (case zqk4 => k_asm); (case zqk5 => k_asm); (case zqkK => first | exact rfl | assumption); (case zqh0 => assumption); (case zqkd => ktr_room); (case zqku => ktr_units); (intro x9 hro9 t9 h9 tk9 r9 e9 F9 N9; subst e9; (try dsimp only); (try k_fold))) | (refine' law_fitted_c _ _ _ _ _ _ _ ?zqhks ?zqhkl ?zqhx ?zqhxo ?zqhpt _ ?zqhmem _ _ _ _ _ _ _ _ _ _ _ _ _ _ _ _ _ _ _ _ _ _ ?zqk1 ?zqk2 ?zqk3 ?zqk4 ?zqk5 ?zqkK ?zqkd ?zqku ?_; (case zqk1 => k_asm); (case zqk2 => k_asm); (case zqk3 => k_asm); (case zqk4 => k_asm); (case zqk5 => k_asm); (case zqkK => first | exact rfl | assumption); (case zqhmem => k_mem); (case zqhks => assumption); (case zqhkl => assumption); (case zqhx => assumption); (case zqhxo => assumption); (case zqhpt => assumption); (case zqkd => ktr_room); (case zqku => ktr_units); refine ⟨fun hfv => ?zqfv1, fun ds9 hfv => ?zqfv2⟩; (case' zqfv1 => (refine Ret.use ?_; intro t9 h9 tk9 F9 N9; (try dsimp only); (try k_fold))); (case' zqfv2 => (intro vs9 n9 l9' h9 tk9 sa9 F9 N9 l9; (try k_lt l9); (try dsimp only); (try k_fold))))))) | (k_unfold; (try dsimp only)) | (k_end; wrow_close) | walk1 | (dsimp only; first | walk1 | (fail_if_success (fail_if_success (with_reducible show wpAny _ _ (call (Value.builtin "list.pop") (_ :: _)) _ _ _))) | (fail_if_success (fail_if_success (with_reducible show wpAny _ _ (call (Value.ref _) (_ :: _)) _ _ _)))) | (leave1; walk_say "STEP leave1"; try dsimp only) | fail "no step"))
      refine Stop.mk ?_
      rename (News _ _ _ (_ :: _)) => lNf
      refine' kmk_add_lit ?hFq ?hNq ?haq ?hbq ?heq ?_ ?hzq
      case hFq => k_asm
      case hNq => exact lNf
      case haq => exact News.isList lNf (.tail _ (.tail _ (.tail _ (.tail _ (.tail _ (.tail _ (.tail _ (.head _))))))))
      case hbq => exact News.isList lNf (.head _)
      case heq => exact (rfl : _ = rvs ++ [_])
      case hzq =>
        rw [sizeLine_eq]
        show rvs.length + 1 ≤ _
        rw [hrv.length]
        exact Nat.succ_le_succ (q3 (M := 16777215) hrn rfl)
      intro lz hC9 FC9 NC9 hlz
      (try dsimp only)
      (try k_fold)
      (try (with_reducible show wpAny _ _ _ _ _ _)); (try k_fold); (repeat' (first | ((fail_if_success (fail_if_success (with_reducible show wpAny _ _ (call (Value.builtin "list.pop") (_ :: _)) _ _ _))); (k_here; (with_reducible show wpAny _ _ (call (Value.builtin _) [Value.ref _, Value.int _ _]) _ _ _); k_dflt (refine' kl_popAt ?zqF ?zqN ?zqf ?zqk ?zqe ?zqU ?zqz ?_; (case zqF => k_asm); (case zqN => k_asm); (case zqU => k_upd); (case zqf => rfl); (case zqk => exact pop_k _ _); (case zqe => rfl); (case zqz => (rw [sizeLine_eq]; simp; first | assumption | omega))); kl_rest)) | ((fail_if_success (fail_if_success (with_reducible show wpAny _ _ (call (Value.ref _) (_ :: _)) _ _ _))); (k_here; k_dflt (first | (refine' law_row_c _ _ _ ?zqh0 _ _ _ _ _ _ _ _ _ _ _ _ _ _ _ _ _ _ _ _ _ _ _ ?zqk1 ?zqk2 ?zqk3 ?zqk4 ?zqk5 ?zqkK ?zqkd ?zqku ?_; (case zqk1 => k_asm); (case zqk2 => k_asm); (case zqk3 => k_asm); (case zqk4 => k_asm); (case zqk5 => k_asm); (case zqkK => first | exact rfl | assumption); (case zqh0 => assumption); (case zqkd => ktr_room); (case zqku => ktr_units); (intro x9 hro9 t9 h9 tk9 r9 e9 F9 N9; subst e9; (try dsimp only); (try k_fold))) | (refine' law_fitted_c _ _ _ _ _ _ _ ?zqhks ?zqhkl ?zqhx ?zqhxo ?zqhpt _ ?zqhmem _ _ _ _ _ _ _ _ _ _ _ _ _ _ _ _ _ _ _ _ _ _ ?zqk1 ?zqk2 ?zqk3 ?zqk4 ?zqk5 ?zqkK ?zqkd ?zqku ?_; (case zqk1 => k_asm); (case zqk2 => k_asm); (case zqk3 => k_asm); (case zqk4 => k_asm); (case zqk5 => k_asm); (case zqkK => first | exact rfl | assumption); (case zqhmem => k_mem); (case zqhks => assumption); (case zqhkl => assumption); (case zqhx => assumption); (case zqhxo => assumption); (case zqhpt => assumption); (case zqkd => ktr_room); (case zqku => ktr_units); refine ⟨fun hfv => ?zqfv1, fun ds9 hfv => ?zqfv2⟩; (case' zqfv1 => (refine Ret.use ?_; intro t9 h9 tk9 F9 N9; (try dsimp only); (try k_fold))); (case' zqfv2 => (intro vs9 n9 l9' h9 tk9 sa9 F9 N9 l9; (try k_lt l9); (try dsimp only); (try k_fold))))))) | (k_unfold; (try dsimp only)) | (k_end; wrow_close) | walk1 | (dsimp only; first | walk1 | (fail_if_success (fail_if_success (with_reducible show wpAny _ _ (call (Value.builtin "list.pop") (_ :: _)) _ _ _))) | (fail_if_success (fail_if_success (with_reducible show wpAny _ _ (call (Value.ref _) (_ :: _)) _ _ _)))) | (leave1; walk_say "STEP leave1"; try dsimp only) | fail "no step"))
      refine Stop.mk ?_
      rw [lrow] at hos4
      refine' eq_texts (xs := rws ++ [r2 ++ Str.ofString "L"]) (reads_newData ?haq ?hbq) (reads_newData ?hcq ?hdq) ?heq ?hfq ?_
      case haq => exact News.isList NC9 (.tail _ (.tail _ (.head _)))
      case hbq => exact strs_carried hos4
      case hcq => exact News.isList NC9 (.head _)
      case hdq => exact strs_carried (hrv.append' (.cons _ _ .nil))
      case heq =>
        intro z hz
        rcases List.mem_append.mp hz with hz | hz
        · exact hro z hz
        · rw [List.mem_singleton.mp hz]; exact ok_append hr2o (by decide +kernel)
      case hfq => exact (Mine.rm2 hu rfl : un + 3 + 64 < cLine)
      (try (with_reducible show wpAny _ _ _ _ _ _)); (try k_fold); (repeat' (first | ((fail_if_success (fail_if_success (with_reducible show wpAny _ _ (call (Value.builtin "list.pop") (_ :: _)) _ _ _))); (k_here; (with_reducible show wpAny _ _ (call (Value.builtin _) [Value.ref _, Value.int _ _]) _ _ _); k_dflt (refine' kl_popAt ?zqF ?zqN ?zqf ?zqk ?zqe ?zqU ?zqz ?_; (case zqF => k_asm); (case zqN => k_asm); (case zqU => k_upd); (case zqf => rfl); (case zqk => exact pop_k _ _); (case zqe => rfl); (case zqz => (rw [sizeLine_eq]; simp; first | assumption | omega))); kl_rest)) | ((fail_if_success (fail_if_success (with_reducible show wpAny _ _ (call (Value.ref _) (_ :: _)) _ _ _))); (k_here; k_dflt (first | (refine' law_row_c _ _ _ ?zqh0 _ _ _ _ _ _ _ _ _ _ _ _ _ _ _ _ _ _ _ _ _ _ _ ?zqk1 ?zqk2 ?zqk3 ?zqk4 ?zqk5 ?zqkK ?zqkd ?zqku ?_; (case zqk1 => k_asm); (case zqk2 => k_asm); (case zqk3 => k_asm); (case zqk4 => k_asm); (case zqk5 => k_asm); (case zqkK => first | exact rfl | assumption); (case zqh0 => assumption); (case zqkd => ktr_room); (case zqku => ktr_units); (intro x9 hro9 t9 h9 tk9 r9 e9 F9 N9; subst e9; (try dsimp only); (try k_fold))) | (refine' law_fitted_c _ _ _ _ _ _ _ ?zqhks ?zqhkl ?zqhx ?zqhxo ?zqhpt _ ?zqhmem _ _ _ _ _ _ _ _ _ _ _ _ _ _ _ _ _ _ _ _ _ _ ?zqk1 ?zqk2 ?zqk3 ?zqk4 ?zqk5 ?zqkK ?zqkd ?zqku ?_; (case zqk1 => k_asm); (case zqk2 => k_asm); (case zqk3 => k_asm); (case zqk4 => k_asm); (case zqk5 => k_asm); (case zqkK => first | exact rfl | assumption); (case zqhmem => k_mem); (case zqhks => assumption); (case zqhkl => assumption); (case zqhx => assumption); (case zqhxo => assumption); (case zqhpt => assumption); (case zqkd => ktr_room); (case zqku => ktr_units); refine ⟨fun hfv => ?zqfv1, fun ds9 hfv => ?zqfv2⟩; (case' zqfv1 => (refine Ret.use ?_; intro t9 h9 tk9 F9 N9; (try dsimp only); (try k_fold))); (case' zqfv2 => (intro vs9 n9 l9' h9 tk9 sa9 F9 N9 l9; (try k_lt l9); (try dsimp only); (try k_fold))))))) | (k_unfold; (try dsimp only)) | (k_end; wrow_close) | walk1 | (dsimp only; first | walk1 | (fail_if_success (fail_if_success (with_reducible show wpAny _ _ (call (Value.builtin "list.pop") (_ :: _)) _ _ _))) | (fail_if_success (fail_if_success (with_reducible show wpAny _ _ (call (Value.ref _) (_ :: _)) _ _ _)))) | (leave1; walk_say "STEP leave1"; try dsimp only) | fail "no step"))
      refine Stop.mk ?_
      rename (News _ _ _ (_ :: _)) => lNg
      refine' eq_texts (xs := []) (reads_newData (ys := []) ?haq ?hbq) (reads_newData (ys := []) ?hcq ?hdq) (List.forall_mem_nil _) ?hfq ?_
      case hbq => exact .nil
      case hdq => exact .nil
      case hfq => exact (Mine.rm2 hu rfl : un + 3 + 64 < cLine)
      case haq => exact News.isList lNg (.tail _ (.tail _ (.tail _ (.tail _ (.tail _ (.tail _ (.head _)))))))
      case hcq => exact News.isList lNg (.head _)
      (try (with_reducible show wpAny _ _ _ _ _ _)); (try k_fold); (repeat' (first | ((fail_if_success (fail_if_success (with_reducible show wpAny _ _ (call (Value.builtin "list.pop") (_ :: _)) _ _ _))); (k_here; (with_reducible show wpAny _ _ (call (Value.builtin _) [Value.ref _, Value.int _ _]) _ _ _); k_dflt (refine' kl_popAt ?zqF ?zqN ?zqf ?zqk ?zqe ?zqU ?zqz ?_; (case zqF => k_asm); (case zqN => k_asm); (case zqU => k_upd); (case zqf => rfl); (case zqk => exact pop_k _ _); (case zqe => rfl); (case zqz => (rw [sizeLine_eq]; simp; first | assumption | omega))); kl_rest)) | ((fail_if_success (fail_if_success (with_reducible show wpAny _ _ (call (Value.ref _) (_ :: _)) _ _ _))); (k_here; k_dflt (first | (refine' law_row_c _ _ _ ?zqh0 _ _ _ _ _ _ _ _ _ _ _ _ _ _ _ _ _ _ _ _ _ _ _ ?zqk1 ?zqk2 ?zqk3 ?zqk4 ?zqk5 ?zqkK ?zqkd ?zqku ?_; (case zqk1 => k_asm); (case zqk2 => k_asm); (case zqk3 => k_asm); (case zqk4 => k_asm); (case zqk5 => k_asm); (case zqkK => first | exact rfl | assumption); (case zqh0 => assumption); (case zqkd => ktr_room); (case zqku => ktr_units); (intro x9 hro9 t9 h9 tk9 r9 e9 F9 N9; subst e9; (try dsimp only); (try k_fold))) | (refine' law_fitted_c _ _ _ _ _ _ _ ?zqhks ?zqhkl ?zqhx ?zqhxo ?zqhpt _ ?zqhmem _ _ _ _ _ _ _ _ _ _ _ _ _ _ _ _ _ _ _ _ _ _ ?zqk1 ?zqk2 ?zqk3 ?zqk4 ?zqk5 ?zqkK ?zqkd ?zqku ?_; (case zqk1 => k_asm); (case zqk2 => k_asm); (case zqk3 => k_asm); (case zqk4 => k_asm); (case zqk5 => k_asm); (case zqkK => first | exact rfl | assumption); (case zqhmem => k_mem); (case zqhks => assumption); (case zqhkl => assumption); (case zqhx => assumption); (case zqhxo => assumption); (case zqhpt => assumption); (case zqkd => ktr_room); (case zqku => ktr_units); refine ⟨fun hfv => ?zqfv1, fun ds9 hfv => ?zqfv2⟩; (case' zqfv1 => (refine Ret.use ?_; intro t9 h9 tk9 F9 N9; (try dsimp only); (try k_fold))); (case' zqfv2 => (intro vs9 n9 l9' h9 tk9 sa9 F9 N9 l9; (try k_lt l9); (try dsimp only); (try k_fold))))))) | (k_unfold; (try dsimp only)) | (k_end; wrow_close) | walk1 | (dsimp only; first | walk1 | (fail_if_success (fail_if_success (with_reducible show wpAny _ _ (call (Value.builtin "list.pop") (_ :: _)) _ _ _))) | (fail_if_success (fail_if_success (with_reducible show wpAny _ _ (call (Value.ref _) (_ :: _)) _ _ _)))) | (leave1; walk_say "STEP leave1"; try dsimp only) | fail "no step"))
      rename (News h₀ _ _ (_ :: _ :: _)) => hNz
      exact hret 0 _ _ _ rfl (by k_asm) (ndrop (a := []) (b := [_, _, _, _, _, _, _, _, _, _, _, _, _]) hNz)
    · rw [hR7] at hh
      cases hh
end Mine
end
section
namespace Mine
theorem startC19 : True := by
  w_top off
  trivial
end Mine
open PySem PySem.W PyProof.Rows PySem.Calls PyProof.V PySem.Spec
namespace Mine
/-- an object's dict -/
noncomputable def KD (e de : Addr) (h : Heap) : Prop := ∃ o, h.get? e = some o ∧ o.dict = some de
/-- a change that leaves the dict alone -/
noncomputable def Mild (f : Obj → Obj) : Prop := ∀ o, (f o).dict = o.dict ∧ (o.isFreed = false → (f o).isFreed = false)
/-- a tree with no calls, whose changes are mild -/
inductive Tame {α : Type} : Sem α → Prop
  | pure (a : α) : Tame (.pure a)
  | raise (e : Value) : Tame (.raise e)
  | unsupported (x : String) : Tame (.unsupported x)
  | rule (t : String) (k : Unit → Sem α) (h : ∀ x, Tame (k x)) : Tame (.rule t k)
  | at (p : Pos) (k : Unit → Sem α) (h : ∀ x, Tame (k x)) : Tame (.at p k)
  | load (a : Addr) (p : Option Value) (k : Obj → Sem α) (h : ∀ x, Tame (k x)) : Tame (.load a p k)
  | update (a : Addr) (p : Option Value) (f : Obj → Obj) (k : Unit → Sem α) (hf : Mild f) (h : ∀ x, Tame (k x)) : Tame (.update a p f k)
  | alloc (o : Obj) (k : Addr → Sem α) (h : ∀ x, Tame (k x)) : Tame (.alloc o k)
  | register (a : Addr) (k : Unit → Sem α) : Tame (.register a k)
  | stack (k : List (Code × Pos) → Sem α) (h : ∀ x, Tame (k x)) : Tame (.stack k)
theorem KD.update {e de a : Addr} {h : Heap} {f : Obj → Obj} (hf : Mild f) (k : KD e de h) : KD e de (h.update a f) := by
  obtain ⟨o, ho, hd⟩ := k
  by_cases q : a = e
  · subst q
    exact ⟨_, Heap.get?_update_self f ho ((hf o).2 (Heap.get?_some_iff.mp ho).2), (hf o).1.trans hd⟩
  · exact ⟨o, (Heap.get?_update_other h f q).trans ho, hd⟩
theorem KD.push {e de : Addr} {h : Heap} {o : Obj} (k : KD e de h) : KD e de (h.push o) := by
  obtain ⟨o', ho, hd⟩ := k
  exact ⟨o', Heap.get?_push_of_some o ho, hd⟩
theorem tame_wp {α : Type} {M : Model} {Γ : PySem.Ctx} {e de : Addr} {t : Sem α} (T : Tame t) : ∀ {Q : α → Pos → Shared → Prop} {E : Value → Pos → Shared → Prop} {p : Pos} {s : Shared}, KD e de s.heap → Sem.wp M Γ t Q E p s →
    Sem.wp M Γ t (fun a p s' => Q a p s' ∧ KD e de s'.heap) (fun v p s' => E v p s' ∧ KD e de s'.heap) p s := by
  induction T with
  | pure a => intro Q E p s k h; rw [Sem.wp] at h ⊢; exact ⟨h, k⟩
  | raise v => intro Q E p s k h; rw [Sem.wp] at h ⊢; exact ⟨h, k⟩
  | unsupported x => intro Q E p s k h; rw [Sem.wp] at h; exact h.elim
  | rule t k _ ih => intro Q E p s kd h; rw [Sem.wp] at h ⊢; exact ih _ kd h
  | «at» q k _ ih => intro Q E p s kd h; rw [Sem.wp] at h ⊢; exact ih _ kd h
  | load a q k _ ih => intro Q E p s kd h; rw [Sem.wp] at h ⊢; obtain ⟨o, ho, h⟩ := h; exact ⟨o, ho, ih _ kd h⟩
  | update a q f k hf _ ih => intro Q E p s kd h; rw [Sem.wp] at h ⊢; exact ⟨h.1, ih _ (kd.update hf) h.2⟩
  | alloc o k _ ih => intro Q E p s kd h; rw [Sem.wp] at h ⊢; exact ih _ kd.push h
  | register a k => intro Q E p s kd h; rw [Sem.wp] at h; exact h.elim
  | stack k _ ih => intro Q E p s kd h; rw [Sem.wp] at h ⊢; exact ih _ kd h
theorem wpAny_tame {α : Type} {M : Model} {A : Around} {e de : Addr} {t : Sem α} {Q : α → Shared → Prop} {E : Value → Shared → Prop} {s : Shared} (T : Tame t) (k : KD e de s.heap) (h : wpAny M A t Q E s) :
    wpAny M A t (fun a s' => Q a s' ∧ KD e de s'.heap) (fun v s' => E v s' ∧ KD e de s'.heap) s := fun Γ p hΓ => tame_wp T k (h Γ p hΓ)
theorem Tame.bind {α β : Type} {t : Sem α} {f : α → Sem β} (T : Tame t) (h : ∀ a, Tame (f a)) : Tame (t >>= f) := by
  show Tame (t.bind f)
  induction T with
  | pure a => exact h a
  | raise v => exact .raise v
  | unsupported x => exact .unsupported x
  | rule t k _ ih => exact .rule _ _ ih
  | «at» q k _ ih => exact .at _ _ ih
  | load a q k _ ih => exact .load _ _ _ ih
  | update a q g k hg _ ih => exact .update _ _ _ _ hg ih
  | alloc o k _ ih => exact .alloc _ _ ih
  | register a k => exact .register _ _
  | stack k _ ih => exact .stack _ ih
theorem Tame.pure' {α : Type} (a : α) : Tame (Pure.pure a : Sem α) := .pure a
theorem mild_fields (g : Array Value → Array Value) : Mild (Obj.mapFields g) := fun o => by
  obtain ⟨c, d, dt, sl⟩ := o
  cases dt <;> exact ⟨rfl, fun h => h⟩
theorem mild_slots (g : Obj → Array (Option Value)) : Mild (fun o => { o with slots := g o }) := fun o => by
  obtain ⟨c, d, dt, sl⟩ := o
  exact ⟨rfl, fun h => by cases dt <;> first | rfl | exact h⟩
theorem tame_load (a : Addr) : Tame (load a) := .load _ _ _ fun x => .pure x
theorem tame_fieldsOf (v : Value) : Tame (fieldsOf v) := by
  unfold fieldsOf
  split
  · refine (tame_load _).bind fun o => ?_
    split
    · exact .pure' _
    · exact .unsupported _
  · exact .unsupported _
theorem tame_field (v : Value) (i : Nat) : Tame (field v i) := by
  unfold field
  refine (tame_fieldsOf v).bind fun vs => ?_
  split
  · exact .pure' _
  · exact .unsupported _
theorem tame_setField (v : Value) (i : Nat) (x : Value) : Tame (setField v i x) := by
  unfold setField updateField
  split
  · refine (tame_load _).bind fun o => ?_
    split
    · split
      · exact .update _ _ _ _ (mild_fields _) fun x => .pure x
      · exact .unsupported _
    · exact .unsupported _
  · exact .unsupported _
theorem tame_setFlight (v : Value) (f : Option Addr) : Tame (setFlight v f) := by
  unfold setFlight
  refine (tame_field v 1).bind fun tb => ?_
  split
  · exact tame_setField _ _ _
  · exact .pure' _
theorem tame_stack : Tame stack := .stack _ fun x => .pure x
theorem tame_entryPlace (f : Addr) (b : Bool) : Tame (entryPlaceOf f b) := by
  unfold entryPlaceOf
  refine tame_stack.bind fun acts => ?_
  split <;> exact .pure' _
theorem tame_newFields (n : String) (vs : List Value) : Tame (newFields n vs) := by
  unfold newFields newObj newObjAsIs
  dsimp only
  split
  · exact .unsupported _
  · exact .alloc _ _ fun a => .pure _
theorem tame_ready : ∀ l, Tame (readyFrames l)
  | [] => .pure' _
  | env :: outer => by
    unfold readyFrames
    split
    · refine (tame_load _).bind fun o => ?_
      split
      · exact .pure' _
      · refine Tame.bind ?_ fun b => Tame.bind ?_ fun v => Tame.bind (.update _ _ _ _ (mild_slots _) fun x => .pure x) fun _ => tame_ready outer
        · unfold behindIsImport
          split
          · exact .pure' _
          · split
            · exact .pure' _
            · exact (tame_field _ _).bind fun _ => .pure' _
        · cases outer with
          | nil =>
            show Tame (if (env.scope.isGenerator || env.scope.isCoroutine) = true then _ else _)
            split
            · exact .pure' _
            · unfold underTheClaimsCaller
              exact (tame_stack.bind fun _ => .pure' _).bind fun _ => .pure' _
          | cons c r => exact .pure' _
    · exact .unsupported _
theorem tame_frameOf (env : Env) : Tame (PySem.frameOf env) := by
  unfold PySem.frameOf
  refine Tame.bind (tame_stack.bind fun _ => .pure' _) fun l => Tame.bind ?_ fun o => ?_
  · cases l.dropWhile (·.frame != env.frame) with
    | nil => exact .pure' _
    | cons a r => exact (tame_ready _).bind fun _ => .pure' _
  · split
    · exact .pure' _
    · exact .unsupported _
theorem tame_noteFrame (e : Value) (env : Env) : Tame (noteFrame e env) := by
  unfold noteFrame
  split
  · refine (tame_field _ _).bind fun head => ?_
    have tail : ∀ (f : Addr) (hd : Value), Tame (do
        let pl ← PySem.frameOf env
        let ep ← entryPlaceOf f (hd != .none)
        let b ← EntryCells.newEntry hd pl .none (rawInt f) .none ep
        setField e 1 b)   := fun f hd => (tame_frameOf _).bind fun _ => (tame_entryPlace _ _).bind fun _ => Tame.bind (tame_newFields _ _) fun _ => tame_setField _ _ _
    split
    · refine (tame_field _ _).bind fun x => ?_
      split
      · exact .pure' _
      · exact (tame_setField _ _ _).bind fun _ => tail _ _
    · exact tail _ _
  · exact .unsupported _
theorem tame_leaving (env : Env) (e : Value) : Tame (leaving env e) := (tame_noteFrame e env).bind fun _ => tame_setFlight e none
end Mine
end
section
namespace Mine
theorem startC20a : True := by
  w_top off
  trivial
end Mine
open PySem PySem.W PyProof.Rows PySem.Calls PyProof.V PySem.Spec
namespace Mine
section
noncomputable abbrev mwObj (x : Addr) : Obj := { cls := .type "method-wrapper", data := .fields #[.builtin "Exception.__init__", .ref x] }
theorem xi_slot : Slot "wrapper_descriptor" "__get__" "wrapper_descriptor.__get__" :=
  .of (owner := "wrapper_descriptor") (n := "__get__") (by rw [typeLookup_type, builtinLookup_eq_fast]; kernel_rfl) (by decide +kernel) (by decide +kernel) (by decide +kernel)
    (by first | exact .inl (by decide +kernel) | exact .inr (by decide +kernel)) (by rw [isSubtype_type]; kernel_rfl)
theorem xi_entry : entryFor table "wrapper_descriptor.__get__" = some Builtin.«wrapper_descriptor.__get__» := entryFor_of_tree (by kernel_rfl)
theorem xi_args (a b c : Value) : argsOk "wrapper_descriptor.__get__" ⟨[a, b, c], []⟩ := by unfold argsOk; kernel_rfl
theorem xi_type : typeOf (.builtin "Exception.__init__") = pure (.type "wrapper_descriptor") := by show builtinType _ = _; rw [builtinType_eq_fast]; kernel_rfl
theorem xi_owner : (kfb_private% "ownerAndName") "Exception.__init__" = ("Exception", "__init__") := by first | decide +kernel | kernel_rfl
theorem xi_quiet {as : Args} : (Code.builtin "Exception.__init__" as).quiet = true := Code.quiet_builtin _ (by decide +kernel)
section
variable {prog : Program} {w : World} {M : Model} {A : Around} {E : Value → Shared → Prop} {s : Shared} {K : Frag} {h₀ : Heap} {L : Addr} {m : PySem.Str → Option Value} {news : List (Addr × Obj)} {x C : Addr} {ox : Obj}
theorem xi_inst (hx : s.heap.get? x = some ox) (hc : ox.cls = .ref C) (hsub : Looks M s.heap (isSubtype (.ref C) (.type "Exception")) true) {Q : Bool → Shared → Prop} (h : Q true s) : wpAny M A (isInstance (.ref x) (.type "Exception")) Q E s := by
  have T : Looks M s.heap (typeOf (.ref x)) (.ref C) := hc ▸ (Looks.ld hx).andThen .now
  exact (T.andThen hsub).here h
theorem xi_run (hx : s.heap.get? x = some ox) (hc : ox.cls = .ref C) (hsub : Looks M s.heap (isSubtype (.ref C) (.type "Exception")) true) {P : Fin → Shared → Prop} (h : P (.done (.ret (.ref s.heap.objs.size))) { s with heap := s.heap.push (mwObj x) }) :
    wpAny M A (Builtin.«wrapper_descriptor.__get__» ⟨[.builtin "Exception.__init__", .ref x, .ref C], []⟩) P E s := by
  unfold Builtin.«wrapper_descriptor.__get__»
  refine wpAny_bind (wpAny_of_eq (a := (.builtin "Exception.__init__", some (.ref x), some (.ref C))) (by first | rfl | kernel_rfl) ?_)
  refine wpAny_bind (wpAny_bind (wpAny_of_eq (a := (PySem.Str.ofString "__init__", .type "Exception")) (by kernel_rfl) ?_))
  refine wpAny_bind (xi_inst hx hc hsub ?_)
  refine KFB.if_not rfl ?_
  refine wpAny_pure ?_
  exact wpAny_bind (wpAny_newObj_type (wpAny_pure h))
end
end
end Mine
end
section
namespace Mine
theorem startC20b : True := by
  w_top off
  trivial
end Mine
open PySem PySem.W PyProof.Rows PySem.Calls PyProof.V PySem.Spec
namespace Mine
section
variable {prog : Program} {w : World} {M : Model} {A : Around} {E : Value → Shared → Prop} {h : Heap} {g : Array GenState} {d : Drawn} {t : Nat} {os : OsState} {K : Frag} {x C D so : Addr} {ox : Obj} {l₀ l : List Value}
theorem xi_super {tk : Tok} {Q : Fin → Shared → Prop}
    (hso : h.get? so = some (ks_superObj D x C)) (hno : Looks (model prog w) h (opaqueClassAbove (.ref C)) none)
    (hC : Looks (model prog w) h (mroOf (.ref C)) l₀) (hl : (l₀.dropWhile (· != .ref D)).drop 1 = l) (X : K.In h)
    (hf : alongIn K "__init__" l = some (some (.builtin "Exception.__init__"))) (hxC : x ≠ C) (hx : h.get? x = some ox) (hxc : ox.cls = .ref C) (hsub : Looks (model prog w) h (isSubtype (.ref C) (.type "Exception")) true)
    (hq : Q (.done (.ret (.ref h.objs.size))) ⟨h.push (mwObj x), g, d, t, os⟩) :
    wpAny (model prog w) A (Builtin.«super.__getattribute__» ⟨[.ref so, .str "__init__" tk], []⟩) Q E ⟨h, g, d, t, os⟩ := by
  have hlk := xi_slot.lookup
  have hTf : (⟨h, g, d, t, os⟩ : Shared).TypeIs (.builtin "Exception.__init__") "wrapper_descriptor" := xi_type
  have hne : (Value.ref x == Value.ref C) = false := by simp [hxC]
  have hdt : (ks_superObj D x C).data = .fields #[.ref D, .ref x, .ref C] := rfl
  have f0 : (#[.ref D, .ref x, .ref C] : Array Value)[0]? = some (.ref D) := rfl
  have f1 : (#[.ref D, .ref x, .ref C] : Array Value)[1]? = some (.ref x) := rfl
  have f2 : (#[.ref D, .ref x, .ref C] : Array Value)[2]? = some (.ref C) := rfl
  have hn : ((PySem.Str.ofString "__init__") == ("__class__" : Str)) = false := by decide +kernel
  unfold Builtin.«super.__getattribute__»
  repeat (first
    | (with_reducible refine wpAny_field hso hdt f0 ?_) | (with_reducible refine wpAny_field hso hdt f1 ?_) | (with_reducible refine wpAny_field hso hdt f2 ?_)
    | (with_reducible refine ks_wpAny_notOpaque hno ?_)
    | (with_reducible refine Looks.at hC ?_; rw [hl])
    | (refine ks_forIn_along X (fun _ _ => rfl) rfl ?_ hf)
    | (with_reducible refine wpAny_of_eq xi_type ?_)
    | (with_reducible refine wpAny_of_eq hlk ?_)
    | (with_reducible refine wpAny_call_entry xi_slot hTf xi_entry ?_ (xi_args _ _ _))
    | (with_reducible refine xi_run hx hxc hsub ?_)
    | (with_reducible refine ⟨_, rfl, ?_⟩)
    | (simp only [hn, hne, Bool.or_false, Bool.false_eq_true, if_false])
    | wp_step
    | dsimp only)
  all_goals exact hq
theorem xi_getMethod {pl : Sem Bool} {Q : Value × List Value → Shared → Prop}
    (hso : h.get? so = some (ks_superObj D x C)) (hno : Looks (model prog w) h (opaqueClassAbove (.ref C)) none)
    (hC : Looks (model prog w) h (mroOf (.ref C)) l₀) (hl : (l₀.dropWhile (· != .ref D)).drop 1 = l) (X : K.In h)
    (hf : alongIn K "__init__" l = some (some (.builtin "Exception.__init__"))) (hxC : x ≠ C) (hx : h.get? x = some ox) (hxc : ox.cls = .ref C) (hsub : Looks (model prog w) h (isSubtype (.ref C) (.type "Exception")) true)
    (hq : Q (.ref h.objs.size, []) ⟨h.push (mwObj x), g, d, t + 1, os⟩) :
    wpAny (model prog w) A (getMethod (.ref so) "__init__" pl) Q E ⟨h, g, d, t, os⟩ := by
  have hlk := F.ks_slot_super_ga.lookup
  have hT : ∀ t', (⟨h, g, d, t', os⟩ : Shared).TypeIs (.ref so) "super" := fun _ => ⟨_, hso, rfl⟩
  unfold getMethod
  refine wpAny_bind (wpAny_specialOf (hT _) hlk ?_)
  refine KFB.if_so F.ks_canon_super_ga ?_
  unfold getAttr getAttrBy
  refine wpAny_bind (wpAny_bind (wpAny_mkText (wpAny_holding (wpAny_bind (wpAny_typeOf (hT _) (wpAny_bind (wpAny_of_eq hlk ?_)))))))
  show wpAny _ _ (getAttrByItsOwn (.ref so) (.str "__init__" t) (.type "super") (.builtin "super.__getattribute__") true false) _ _ _
  unfold getAttrByItsOwn hookBefore callGetattribute boundAndCalled
  refine wpAny_bind (wpAny_of_eq (show (if onTheHeap (.type "super") then typeLookup (.type "super") "__getattr__" else pure none) = pure none from rfl) ?_)
  refine wpAny_bind (wpAny_attempt (wpAny_holding ?_))
  show wpAny _ _ (bindSpecial (.builtin "super.__getattribute__") (.ref so) >>= _) _ _ _
  refine wpAny_bind (wpAny_of_eq (F.ks_slot_super_ga.bind _) ?_)
  refine wpAny_mono (Q := fun v s' => v = .ref h.objs.size ∧ s' = ⟨h.push (mwObj x), g, d, t + 1, os⟩) (E := fun _ _ => False)
    (wpAny_call_entry F.ks_slot_super_ga (hT _) F.ks_entry_super_ga (xi_super hso hno hC hl X hf hxC hx hxc hsub ⟨_, rfl, rfl, rfl⟩) (F.ks_gaArgs_super _ _)) (fun v s' hv => ?_) fun _ _ z => z.elim
  obtain ⟨rfl, rfl⟩ := hv
  exact wpAny_pure (wpAny_pure hq)
end
end Mine
end
section
namespace Mine
theorem startC20c : True := by
  w_top off
  trivial
end Mine
open PySem PySem.W PyProof.Rows PySem.Calls PyProof.V PySem.Spec
namespace Mine
noncomputable abbrev excObj (C tp : Addr) (d : Option Addr) : Obj := { cls := .ref C, dict := d, data := .fields #[.ref tp, .none, .none, .none, .bool false, .none] }
theorem xi_check {M : Model} {A : Around} {E : Value → Shared → Prop} {h : Heap} {g : Array GenState} {d : Drawn} {t : Nat} {os : OsState} {nm qn : Str} {C N : Addr} {bs : List Value} {hdct : Bool} {sn : List Str} {sub : List Value} {ab : Bool} {col : Option Bool} {dd : Option Addr} {k0 k1 k2 k3 k5 : Option Value} {newId : String} {e : Addr} {oe : Obj} {v : Value} {Q : Unit → Shared → Prop}
    (hC : h.get? C = some (excClassObj nm qn C N bs [.type "Exception", .type "BaseException", .type "object"] hdct sn sub ab col dd k0 k1 k2 k3 k5 newId)) (he : h.get? e = some oe) (hcls : oe.cls = .ref C) (hq : Q () ⟨h, g, d, t, os⟩) :
    wpAny M A (checkBoundCall "Exception.__init__" ⟨[.ref e, v], []⟩) Q E ⟨h, g, d, t, os⟩ := by
  have hcB : (Value.ref C :: [.type "Exception", .type "BaseException", .type "object"]).contains (.type "Exception") = true := by simp
  have hshort := PySem.F.excBase_Exception.noStar
  simp only [checkBoundCall, PySem.F.excBase_Exception.initKind, PySem.F.excBase_Exception.initRow]
  repeat (first | (with_reducible refine wpAny_loadPart_at he ?_; rw [hcls]) | with_reducible refine wpAny_loadPart_at hC ?_ | (with_reducible refine wpAny_isSubtype_exc hC ?_; rw [hcB]) | wp_step)
  exact hq
section
variable {prog : Program} {w : World} {M : Model} {A : Around} {E : Value → Shared → Prop} {s : Shared} {K : Frag} {x C D so u e tp : Addr} {ox : Obj} {l₀ l : List Value}
theorem xi_callWith0 {pos : Pos} {first : List Value} {args : List (Bool × Sem Value)} {Q : Value → Shared → Prop} (hplain : args.any (·.1) = false)
    (h : wpAny M A (evalArgs (.ref u) true args []) (fun x s₁ => s₁.heap.get? u = some (mwObj e) ∧ wpAny M A (call (.ref u) (first ++ x.pos) x.kw) Q E s₁) E s) : wpAny M A (callWith pos (.ref u) first args []) Q E s := by
  unfold callWith
  refine wpAny_bind (wpAny_holding (wpAny_mono h (fun x s₁ h₁ => wpAny_bind (wpAny_standAt ?_)) fun _ _ x => x))
  obtain ⟨ho, hcall⟩ := h₁
  simp only [hplain, List.any_nil, Bool.or_false]
  refine wpAny_bind (m := keeperOf (.ref u)) ?_
  unfold keeperOf
  refine wpAny_bind (wpAny_load ho ?_)
  simp only [show (Value.type "method-wrapper" != Value.type "method") = true by decide, show (Value.type "method-wrapper" == Value.type "builtin_function_or_method" || Value.type "method-wrapper" == Value.type "method-wrapper") = true by decide, if_true]
  refine wpAny_pure ?_
  exact wpAny_bind (wpAny_mono hcall (fun r s₂ hr => wpAny_bind (wpAny_holding (wpAny_point (wpAny_pure hr)))) fun _ _ x => x)
theorem xi_callWith {pos : Pos} {first : List Value} {env : Env} {ex : PySem.Expr} {rest : List PySem.Expr} {Q : Value → Shared → Prop}
    (h : wpAny M A (spliced (backTo pos (starEach (ex :: rest) env))) (fun vs s₁ => s₁.heap.get? u = some (mwObj e) ∧ wpAny M A (call (.ref u) (first ++ vs)) Q E s₁) E s)
    (he : starEach (ex :: rest) env = (false, eval ex env) :: starEach rest env := by rfl) (hplain : (backTo pos (starEach rest env)).any (·.1) = false := by rfl) :
    wpAny M A (callWith pos (.ref u) first (backTo pos (starEach (ex :: rest) env)) []) Q E s := by
  rw [he] at h ⊢
  refine xi_callWith0 ?_ (evalArgs_plain h)
  show (false || (backTo pos (starEach rest env)).any (·.1)) = false
  rw [hplain]; rfl
theorem xi_call {nm qn : Str} {N : Addr} {bs : List Value} {hdct : Bool} {sn : List Str} {sub : List Value} {ab : Bool} {col : Option Bool} {dd : Option Addr} {k0 k1 k2 k3 k5 : Option Value} {newId : String} {v : Value} {Q : Value → Shared → Prop}
    (hC : s.heap.get? C = some (excClassObj nm qn C N bs [.type "Exception", .type "BaseException", .type "object"] hdct sn sub ab col dd k0 k1 k2 k3 k5 newId)) (hu : s.heap.get? u = some (mwObj e)) (he : s.heap.get? e = some (excObj C tp none))
    (h : Q .none { s with heap := (s.heap.push { cls := .type "tuple", data := .seq #[v] }).update e (Obj.mapFields (·.setIfInBounds 0 (.ref s.heap.objs.size))) }) : wpAny (model prog w) A (call (.ref u) [v]) Q E s := by
  refine wpAny_call (codeAny_of_tree ?_)
  show wpAny _ A.in1 (callAny (.ref u) ⟨[v], []⟩) _ _ s
  simp only [callAny]
  refine wpAny_bind (wpAny_load hu ?_)
  simp only [show (Value.type "method-wrapper" == Value.type "method" || Value.type "method-wrapper" == Value.type "builtin_function_or_method" || Value.type "method-wrapper" == Value.type "method-wrapper") = true by decide, if_true]
  refine KFB.if_so (by decide) ?_
  obtain ⟨hh, g, d, t, os⟩ := s
  refine wpAny_bind (xi_check hC he rfl ?_)
  refine wpAny_bind (wpAny_pure (wpAny_pure ?_))
  refine ⟨xi_quiet, codeAny_builtin PySem.F.excBase_Exception.initEntry ?_⟩
  have he2 := Heap.get?_push_of_some { cls := .type "tuple", data := .seq #[v] } he
  wp_walk
  exact h
end
end Mine
end
section
namespace Mine
theorem startC20d : True := by
  w_top off
  trivial
end Mine
open PySem PySem.W PyProof.Rows PySem.Calls PyProof.V PySem.Spec
open PySem.Builtin PySem.Builtin.ObjectAttr
namespace Mine
section
variable {prog : Program} {w : World} {A : Around} {E : Value → Shared → Prop} {h : Heap} {g : Array GenState} {d : Drawn} {t : Nat} {os : OsState}
variable {nm qn : Str} {C N x tp : Addr} {bs : List Value} {sn : List Str} {sub : List Value} {ab : Bool} {col : Option Bool} {dd : Option Addr} {k0 k1 k2 k3 k5 : Option Value} {newId B sa owner : String} {bm : List Value}
  {mN : Str → Option Value} {name : Str} {v : Value} {o : Obj}
noncomputable abbrev excBm : List Value := [.type "Exception", .type "BaseException", .type "object"]
theorem xi_first {tk : Tok} {Q : Fin → Shared → Prop} (SF : StoreFacts B bm sa owner) (hC : h.get? C = some (excClassObj nm qn C N bs bm true sn sub ab col dd k0 k1 k2 k3 k5 newId)) (hn : h.Ns N mN) (hna : mN name = none)
    (hB : typeLookup (.type B) name = pure none) (hx : h.get? x = some o) (hc : o.cls = .ref C) (hdn : o.dict = none) (hnc : ∀ c, o.data ≠ .cls c)
    (hq : ∀ h' tk', h'.get? x = some ⟨o.cls, some h.objs.size, o.data, o.slots⟩ → h'.Ns1 h.objs.size (fun y => if y = name then some v else none) → (∀ b o, b ≠ x → h.get? b = some o → h'.get? b = some o) → Q (.done (.ret .none)) ⟨h', g, d, tk', os⟩) :
    wpAny (model prog w) A (Builtin.«object.__setattr__» ⟨[.ref x, .str name tk, v], []⟩) Q E ⟨h, g, d, t, os⟩ := by
  have hpass := SF.passes (.ref x)
  have hxs : x ≠ h.objs.size := Nat.ne_of_lt (Heap.lt_size hx)
  unfold Builtin.«object.__setattr__»
  repeat (first | rw [refuse_eq] | (rw [refuseLoop_ref, hpass]) | (with_reducible refine wpAny_loadPart_at hx ?_; rw [hc]) | with_reducible refine wpAny_mroOf_exc hC ?_ | (with_reducible refine wpAny_typeLookup_exc hC hn SF.mro hB ?_; rw [hna]) | wp_step)
  rw [hdn, if_neg (by simp [typeHasDict])]
  split
  · rename_i hcd
    cases hcd
  split
  · rename_i c hcd
    exact absurd hcd (hnc c)
  have hx₁ : (h.push { cls := .type "dict", data := .dict #[] }).get? x = some o := Heap.get?_push_of_some _ hx
  refine wpAny_bind (wpAny_alloc' ?_)
  refine wpAny_bind (wpAny_update' hx₁ ?_)
  refine wpAny_pure ?_
  have hgd : ((h.push { cls := .type "dict", data := .dict #[] }).update x fun o => { cls := o.cls, dict := some h.objs.size, data := o.data, slots := o.slots }).get? h.objs.size
      = some { cls := .type "dict", data := .dict #[] } :=
    (Heap.get?_update_ne _ _ _ _ hxs.symm).trans (Heap.get?_push_at rfl rfl)
  have hnd : ((h.push { cls := .type "dict", data := .dict #[] }).update x fun o => { cls := o.cls, dict := some h.objs.size, data := o.data, slots := o.slots }).Ns h.objs.size (fun _ => none) :=
    ⟨_, #[], _, hgd, rfl, fun e he => absurd he (by simp), fun _ => rfl⟩
  show wpAny _ _ (storeInDict h.objs.size (.str name tk) name v) _ _ _
  unfold storeInDict newKeyGuard
  refine wpAny_bind (wpAny_pure (wpAny_bind (wpAny_nsSet1 (Heap.Ns1.of_empty hnd) fun h' hn' hs => ?_)))
  obtain ⟨oD, esD, epD, hoD, hdD, hcD⟩ := hn'.count (Within.cons name v Within.nil)
  refine wpAny_bind (wpAny_lookBehind hoD (by rw [hdD]; exact pastItsLine_dict (Nat.le_trans hcD (by rw [List.length_cons, List.length_nil, sizeLine_eq]; omega))) ?_)
  wp_walk
  refine hq h' _ ?_ hn' fun b ob hbx hb => ?_
  · exact (hs.2 x hxs).trans (Heap.get?_update_self _ hx₁ (by
      have hfr := (Heap.get?_some_iff.mp hx).2
      obtain ⟨oc, od, odt, osl⟩ := o
      cases odt <;> first | rfl | exact hfr))
  · exact (hs.2 b (Nat.ne_of_lt (Heap.lt_size hb))).trans ((Heap.get?_update_ne _ _ _ _ hbx).trans (Heap.get?_push_of_some _ hb))
theorem xi_store {tk : Tok} {R : Result → Shared → Prop} (SF : StoreFacts B bm sa owner) (hC : h.get? C = some (excClassObj nm qn C N bs bm true sn sub ab col dd k0 k1 k2 k3 k5 newId)) (hn : h.Ns N mN) (hna : mN name = none)
    (hB : typeLookup (.type B) name = pure none) (hx : h.get? x = some o) (hc : o.cls = .ref C) (hdn : o.dict = none) (hnc : ∀ c, o.data ≠ .cls c)
    (hq : ∀ h' tk', h'.get? x = some ⟨o.cls, some h.objs.size, o.data, o.slots⟩ → h'.Ns1 h.objs.size (fun y => if y = name then some v else none) → (∀ b o, b ≠ x → h.get? b = some o → h'.get? b = some o) → R (.ok (.ret .none)) ⟨h', g, d, tk', os⟩) :
    codeAny (model prog w) A (.call (.builtin sa) ⟨[.ref x, .str name tk, v], []⟩) R ⟨h, g, d, t, os⟩ :=
  codeAny_call_builtin SF.slot.plain SF.entry (wpAny_check_sa SF hC hx hc (xi_first SF hC hn hna hB hx hc hdn hnc hq))
theorem xi_set1 {Q : Unit → Shared → Prop} (SF : StoreFacts B bm sa owner) (hC : h.get? C = some (excClassObj nm qn C N bs bm true sn sub ab col dd k0 k1 k2 k3 k5 newId)) (hn : h.Ns N mN) (hns : mN "__setattr__" = none) (hna : mN name = none)
    (hB : typeLookup (.type B) name = pure none) (hx : h.get? x = some o) (hc : o.cls = .ref C) (hdn : o.dict = none) (hnc : ∀ c, o.data ≠ .cls c)
    (hq : ∀ h' tk', h'.get? x = some ⟨o.cls, some h.objs.size, o.data, o.slots⟩ → h'.Ns1 h.objs.size (fun y => if y = name then some v else none) → (∀ b o, b ≠ x → h.get? b = some o → h'.get? b = some o) → Q () ⟨h', g, d, tk', os⟩) :
    wpAny (model prog w) A (setAttr (.ref x) name v) Q E ⟨h, g, d, t, os⟩ := by
  have f3 := SF.slot.bind (.ref x)
  unfold setAttr callSpecial? specialOf
  repeat (any_goals (first | assumption | (with_reducible refine wpAny_loadPart_at hx ?_; rw [hc]) | (with_reducible refine wpAny_typeLookup_exc hC hn SF.mro SF.slot.lookup ?_; rw [hns]) | wp_step))
  refine xi_store SF hC hn hna hB hx hc hdn hnc fun h' tk' e1 e2 e3 => ?_
  repeat (any_goals (first | assumption | wp_step))
  exact hq h' tk' e1 e2 e3
end
end Mine
end
section
namespace Mine
theorem startC20e : True := by
  w_top off
  trivial
end Mine
open PySem PySem.W PyProof.Rows PySem.Calls PyProof.V PySem.Spec
open PySem.Builtin PySem.Builtin.ObjectAttr
namespace Mine
section
variable {prog : Program} {w : World} {A : Around} {E : Value → Shared → Prop} {h : Heap} {g : Array GenState} {d : Drawn} {t : Nat} {os : OsState}
variable {nm qn : Str} {C N x dx : Addr} {bs : List Value} {sn : List Str} {sub : List Value} {ab : Bool} {col : Option Bool} {dd : Option Addr} {k0 k1 k2 k3 k5 : Option Value} {newId B : String} {bm : List Value}
  {mN mA : Str → Option Value} {name : Str} {v : Value} {o : Obj}
theorem xi_checkGa {M : Model} {nameV : Value} {Q : Unit → Shared → Prop} (FB : ExcAttrBase B bm) (hC : h.get? C = some (excClassObj nm qn C N bs bm true sn sub ab col dd k0 k1 k2 k3 k5 newId))
    (hx : h.get? x = some o) (hc : o.cls = .ref C) (hq : Q () ⟨h, g, d, t, os⟩) : wpAny M A (checkBuiltinCall "BaseException.__getattribute__" ⟨[.ref x, nameV], []⟩) Q E ⟨h, g, d, t, os⟩ := by
  have hk : builtinKind "BaseException.__getattribute__" = some .slot := by decide +kernel
  have hsplit : splitId "BaseException.__getattribute__" = some ("BaseException", "__getattribute__") := by decide +kernel
  have hcB : (Value.ref C :: bm).contains (.type "BaseException") = true := by rw [List.contains_cons, FB.hasBase]; rfl
  have ha := PySem.F.args_bexc_ga (.ref x) nameV
  simp only [checkBuiltinCall, hk, hsplit]
  refine wpAny_bind ?_
  unfold isInstance
  repeat (first | (with_reducible refine wpAny_loadPart_at hx ?_; rw [hc]) | (with_reducible refine wpAny_isSubtype_exc hC ?_; rw [hcB]) | wp_step)
  exact hq
theorem xi_getEntry {tk : Tok} {Q : Fin → Shared → Prop} (FB : ExcAttrBase B bm) (hC : h.get? C = some (excClassObj nm qn C N bs bm true sn sub ab col dd k0 k1 k2 k3 k5 newId)) (hn : h.Ns N mN) (hna : mN name = none)
    (hB : typeLookup (.type B) name = pure none) (hx : h.get? x = some o) (hc : o.cls = .ref C) (hnc : ∀ c, o.data ≠ .cls c) (hdx : o.dict = some dx) (hns : h.Ns1 dx mA) (hv : mA name = some v) (hq : Q (.done (.ret v)) ⟨h, g, d, t, os⟩) :
    wpAny (model prog w) A (Builtin.«object.__getattribute__» ⟨[.ref x, .str name tk], []⟩) Q E ⟨h, g, d, t, os⟩ := by
  unfold Builtin.«object.__getattribute__»
  repeat (first | (with_reducible refine wpAny_loadPart_at hx ?_; rw [hc]) | (with_reducible refine wpAny_typeLookup_exc hC hn FB.mro hB ?_; rw [hna]) | wp_step)
  split
  · rename_i c hcd
    exact absurd hcd (hnc c)
  unfold instanceDict
  repeat (first | (with_reducible refine wpAny_loadPart_at hx ?_; rw [hc]) | with_reducible refine wpAny_loadPart_at hC ?_ | wp_step)
  rw [hdx]
  repeat (first | (with_reducible refine wpAny_nsGet hns.ns ?_; rw [hv]) | wp_step)
  exact hq
theorem xi_getCall {tk : Tok} {R : Result → Shared → Prop} (FB : ExcAttrBase B bm) (hC : h.get? C = some (excClassObj nm qn C N bs bm true sn sub ab col dd k0 k1 k2 k3 k5 newId)) (hn : h.Ns N mN) (hna : mN name = none)
    (hB : typeLookup (.type B) name = pure none) (hx : h.get? x = some o) (hc : o.cls = .ref C) (hnc : ∀ c, o.data ≠ .cls c) (hdx : o.dict = some dx) (hns : h.Ns1 dx mA) (hv : mA name = some v) (hq : R (.ok (.ret v)) ⟨h, g, d, t, os⟩) :
    codeAny (model prog w) A (.call (.builtin "BaseException.__getattribute__") ⟨[.ref x, .str name tk], []⟩) R ⟨h, g, d, t, os⟩ :=
  codeAny_call_builtin FB.ga.plain PySem.F.entry_bexc_ga (xi_checkGa FB hC hx hc (xi_getEntry FB hC hn hna hB hx hc hnc hdx hns hv hq))
theorem xi_getBy {tk : Tok} {fill expr : Bool} {Q : Value → Shared → Prop} (FB : ExcAttrBase B bm) (hC : h.get? C = some (excClassObj nm qn C N bs bm true sn sub ab col dd k0 k1 k2 k3 k5 newId)) (hn : h.Ns N mN) (hng : mN "__getattribute__" = none) (hnh : mN "__getattr__" = none) (hna : mN name = none)
    (hB : typeLookup (.type B) name = pure none) (hx : h.get? x = some o) (hc : o.cls = .ref C) (hnc : ∀ c, o.data ≠ .cls c) (hdx : o.dict = some dx) (hns : h.Ns1 dx mA) (hv : mA name = some v) (hh : handedOut v = pure v) (hq : Q v ⟨h, g, d, t, os⟩) :
    wpAny (model prog w) A (getAttrBy (.ref x) (.str name tk) fill expr) Q E ⟨h, g, d, t, os⟩ := by
  have f3 := FB.ga.bind (.ref x)
  have hx0 : (expr && onTheHeap (Value.builtin "BaseException.__getattribute__")) = false := by cases expr <;> rfl
  have hx2 : (Value.builtin "BaseException.__getattribute__" == Value.builtin "object.__getattribute__") = false := by decide +kernel
  have hx1 : (onTheHeap (Value.ref C) && Value.builtin "BaseException.__getattribute__" == Value.builtin "object.__getattribute__") = false := by rw [hx2]; rfl
  repeat (any_goals (first | assumption | (with_reducible refine wpAny_loadPart_at hx ?_; rw [hc]) | (with_reducible refine wpAny_typeLookup_exc hC hn FB.mro FB.ga.lookup ?_; rw [hng]) | (with_reducible refine wpAny_typeLookup_exc hC hn FB.mro FB.noGetattr ?_; rw [hnh]) | wp_step))
  refine xi_getCall FB hC hn hna hB hx hc hnc hdx hns hv ?_
  repeat (any_goals (first | assumption | wp_step | rw [hh]))
theorem xi_get {expr : Bool} {Q : Value → Shared → Prop} (FB : ExcAttrBase B bm) (hC : h.get? C = some (excClassObj nm qn C N bs bm true sn sub ab col dd k0 k1 k2 k3 k5 newId)) (hn : h.Ns N mN) (hng : mN "__getattribute__" = none) (hnh : mN "__getattr__" = none) (hna : mN name = none)
    (hB : typeLookup (.type B) name = pure none) (hx : h.get? x = some o) (hc : o.cls = .ref C) (hnc : ∀ c, o.data ≠ .cls c) (hdx : o.dict = some dx) (hns : h.Ns1 dx mA) (hv : mA name = some v) (hh : handedOut v = pure v) (hq : Q v ⟨h, g, d, t + 1, os⟩) :
    wpAny (model prog w) A (getAttr (.ref x) name expr) Q E ⟨h, g, d, t, os⟩ := by
  unfold getAttr
  repeat (any_goals (first | assumption | with_reducible apply xi_getBy FB hC hn hng hnh hna hB hx hc hnc hdx hns hv hh | wp_step))
end
end Mine
end
section
namespace Mine
theorem startC20 : True := by
  w_top off
  trivial
end Mine
open PySem PySem.W PyProof.Rows PySem.Calls PyProof.V PySem.Spec
namespace Mine
theorem ns_some_in {K : Frag} {h : Heap} {N : Addr} {mg : Str → Option Value} {n : Str} {v : Value} (X : K.In h) (G : h.Ns N mg) (e : nsIn K N n = some (some v)) : mg n = some v := by
  obtain ⟨o, es, ep, ho, hd, _, hf⟩ := G
  unfold nsIn at e
  split at e
  · rename_i c d es' n' sl q
    obtain rfl := Option.some.inj (ho.symm.trans (X _ _ q))
    obtain ⟨rfl, rfl⟩ : es' = es ∧ n' = ep := by simpa using hd
    split at e
    · rename_i en he
      obtain rfl : en.val = v := by simpa using e
      rw [← hf, nsFind, findBy, ← Array.find?_toList, he]
      rfl
    · split at e <;> cases e
  · cases e
theorem fn_in {K : Frag} {h : Heap} {f : Addr} (X : K.In h) (q : typeIn K (.ref f) = some (.type "function")) : ∃ o, h.get? f = some o ∧ o.cls = .type "function" := by
  obtain ⟨o, ho, hc⟩ := Option.map_eq_some_iff.mp (show (K.lookup f).map (·.cls) = some (.type "function") from q)
  exact ⟨o, X _ _ ho, hc⟩
/-- a new exception's object and its tuple join the ledger -/
theorem news_made {h₀ h h' : Heap} {L e : Addr} {m : Str → Option Value} {cls : Value} {args : List Value} {news : List (Addr × Obj)} (F : Fr h₀ L h m) (N : News h₀ L h news) (hm : Heap.MadeExcOf h h' e cls args) :
    ∃ tp, Fr h₀ L h' m ∧ News h₀ L h' ((e, { cls := cls, data := .fields #[.ref tp, .none, .none, .none, .bool false, .none] }) :: (tp, { cls := .type "tuple", data := .seq args.toArray }) :: news) ∧ (∀ p ∈ news, @Ne Nat p.1 e) ∧ (∀ p ∈ news, @Ne Nat p.1 tp) ∧ @Ne Nat tp e := by
  obtain ⟨hk, hn, tp, he, htn, ht⟩ := hm
  have fresh : ∀ b, h.get? b = none → h₀.get? b = none := fun b hb => by
    cases q : h₀.get? b with
    | none => rfl
    | some o => rw [F.keep b o q] at hb; cases hb
  have offL : ∀ b, h.get? b = none → b ≠ L := fun b hb q => by
    obtain ⟨o, _, _, ho, _⟩ := F.ns
    rw [q, ho] at hb; cases hb
  refine ⟨tp, F.keeps hk, fun p hp => ?_, fun p hp q => ?_, fun p hp q => ?_, fun q => ?_⟩
  · rcases List.mem_cons.mp hp with rfl | hp
    · exact ⟨he, offL _ hn, fresh _ hn⟩
    · rcases List.mem_cons.mp hp with rfl | hp
      · exact ⟨ht, offL _ htn, fresh _ htn⟩
      · exact ⟨hk _ _ (N p hp).1, (N p hp).2⟩
  · have := (N p hp).1
    rw [show p.1 = e from q, hn] at this; cases this
  · have := (N p hp).1
    rw [show p.1 = tp from q, htn] at this; cases this
  · rw [show tp = e from q, he] at ht; cases ht
noncomputable def excNames : List Str := ["__setattr__", "__getattribute__", "__getattr__", "code", "told"]
noncomputable def excI (K : Frag) (C fI : Addr) (bm : List Value) (newId : String) : Bool := match K.lookup C with
  | some ⟨.type "type", _, .cls cd, sl⟩ => (match cd.mro, sl.toList with
    | .ref C' :: bm', [_, _, _, _, some (.builtin n), _] => C' == C && bm' == bm && n == newId && !cd.hasDel && cd.hasDict && nsOkIn K cd.ns && nsIn K cd.ns "__init__" == some (some (.ref fI)) && excNames.all fun x => nsIn K cd.ns x == some none
    | _, _ => false)
  | _ => false
/-- the class's object in the heap -/
noncomputable def ExcX (h : Heap) (C fI : Addr) (bm : List Value) (newId : String) : Prop := ∃ nm qn N bs sn sub ab col dd k0 k1 k2 k3 k5 mN,
    h.get? C = some (excClassObj nm qn C N bs bm true sn sub ab col dd k0 k1 k2 k3 k5 newId) ∧ h.Ns N mN ∧ mN "__init__" = some (.ref fI) ∧ ∀ x ∈ excNames, mN x = none
theorem excI_of {K : Frag} {h : Heap} {C fI : Addr} {bm : List Value} {newId : String} (X : K.In h) (q : excI K C fI bm newId = true) : ExcX h C fI bm newId := by
  unfold excI at q
  split at q
  · rename_i dd cd sl ho
    split at q
    · rename_i C' bm' k0 k1 k2 k3 n k5 hm hs
      simp only [Bool.and_eq_true, beq_iff_eq, Bool.not_eq_true', List.all_eq_true] at q
      obtain ⟨⟨⟨⟨⟨⟨⟨rfl, rfl⟩, rfl⟩, hdel⟩, hdi⟩, hok⟩, hi⟩, hno⟩ := q
      obtain ⟨nm, bs, mro, ns, qn, hd, sn, sub, ab, col, del⟩ := cd
      dsimp only at hm hdel hok hi hno hdi
      subst hm hdel hdi
      have hsl : sl = #[k0, k1, k2, k3, some (.builtin n), k5] := by
        obtain ⟨l⟩ := sl
        simp only at hs
        rw [hs]
      subst hsl
      have hn := isNs_of_in X hok
      exact ⟨nm, qn, ns, bs, sn, sub, ab, col, dd, k0, k1, k2, k3, k5, _, X _ _ ho, .of_isNs hn, ns_some_in X (.of_isNs hn) hi, fun x hx => ns_none_of X (.of_isNs hn) (hno x hx)⟩
    · cases q
  · cases q
theorem excI_41 (w : World) : excI (hd.heap_1 w.params) 41 38 [.type "Exception", .type "BaseException", .type "object"] "Exception.__new__" = true := by kernel_rfl
theorem lk_code : typeLookup (.type "Exception") "code" = pure none := by rw [typeLookup_type, builtinLookup_eq_fast]; kernel_rfl
theorem lk_told : typeLookup (.type "Exception") "told" = pure none := by rw [typeLookup_type, builtinLookup_eq_fast]; kernel_rfl
theorem ExcX.looks {h : Heap} {C fI : Addr} {bm : List Value} {newId : String} {M : Model} (X : ExcX h C fI bm newId) (T : String) (hT : bm.contains (.type T) = true) :
    Looks M h (mroOf (.ref C)) (.ref C :: bm) ∧ Looks M h (isSubtype (.ref C) (.type T)) true := by
  obtain ⟨nm, qn, N, bs, sn, sub, ab, col, dd, k0, k1, k2, k3, k5, mN, hC, -⟩ := X
  refine ⟨fun A Q E s k q => ?_, fun A Q E s k q => ?_⟩
  · obtain ⟨hh, g, d, t, os⟩ := s
    exact wpAny_mroOf_exc (k _ _ hC) q
  · obtain ⟨hh, g, d, t, os⟩ := s
    refine wpAny_isSubtype_exc (k _ _ hC) ?_
    rw [List.contains_cons, hT, Bool.or_true]
    exact q
/-- an object of the ledger changed, the others kept -/
theorem news_over {h₀ h h' : Heap} {L e : Addr} {m : Str → Option Value} {oe oe' : Obj} {pre post : List (Addr × Obj)} (F : Fr h₀ L h m) (N : News h₀ L h (pre ++ (e, oe) :: post)) (h1 : ∀ p ∈ pre, @Ne Nat p.1 e) (h2 : ∀ p ∈ post, @Ne Nat p.1 e)
    (he : h'.get? e = some oe') (hk : ∀ b o, b ≠ e → h.get? b = some o → h'.get? b = some o) : Fr h₀ L h' m ∧ News h₀ L h' (pre ++ (e, oe') :: post) := by
  have ne := N (e, oe) (by simp)
  refine ⟨⟨F.ns.at' fun o e' => hk _ _ (Ne.symm ne.2.1) e', fun b o e' => hk _ _ (fun q => ?_) (F.keep b o e'), F.above⟩, fun p hp => ?_⟩
  · rw [q, ne.2.2] at e'; cases e'
  · rcases List.mem_append.mp hp with hp | hp
    · exact ⟨hk _ _ (h1 p hp) (N p (by simp [hp])).1, (N p (by simp [hp])).2⟩
    · rcases List.mem_cons.mp hp with rfl | hp
      · exact ⟨he, ne.2⟩
      · exact ⟨hk _ _ (h2 p hp) (N p (by simp [hp])).1, (N p (by simp [hp])).2⟩
/-- a dict's object that tells a code -/
noncomputable def CodeD (c : Str) (od : Obj) : Prop := ∀ (d : Addr) (h : Heap), h.get? d = some od → ∃ mA t, h.Ns1 d mA ∧ mA "code" = some (.str c t)
set_option maxHeartbeats 4000000 in
theorem basic_c (w : World) (c : Str) (tc : Tok) (hc : c.length ≤ 10) (news : List (Addr × Obj)) :
    Ctr2 w 41 4 64 [.str c tc] news (fun envs base L h₀ m s Q E => ∀ (e de tp : Addr) (oe od : Obj) (h2 : Heap) (tk2 : Nat), oe.cls = .ref 41 → oe.dict = some de → oe.data = .fields #[.ref tp, .none, .none, .none, .bool false, .none] → CodeD c od → (∀ p ∈ news, @Ne Nat p.1 e) → @Ne Nat de e →
      Fr h₀ L h2 m → News h₀ L h2 ((e, oe) :: (de, od) :: news) → Q (.ref e) { s with heap := h2, toks := tk2 }) := by
  unfold Ctr2
  k_fill
  intro p loose mean mg mb dp un gd cn cs a ccd cl outer A₀ base h₀ L m s Q E B F X N T hk hdp hu hret
  obtain ⟨hh, g, d, t, os⟩ := s
  have XX := excI_of (X.keeps F.keep) (excI_41 w)
  obtain ⟨nm, qn, Nn, bs, sn, sub, ab, col, dd, k0, k1, k2, k3, k5, mN, hC, hN, hi, hno⟩ := XX
  obtain ⟨oI, hI, hIc⟩ := fn_in (f := 38) (X.keeps F.keep) (by k_is)
  refine wpAny_call_exc_init PySem.F.excBase_Exception hC hN hi hI hIc ?_
  intro h' e hm
  obtain ⟨tp, F1, N1, l1, l2, l3⟩ := news_made F N hm
  clear hm hC hN hi hI
  refine wpAny_call ?_
  refine' ks_code_super ?k1 ?k2 ?k3 ?k4 ?k5 ?kA ?kF ?kK ?k6 ?k7 ?k8 ?k9 ?kB ?_ ?c1 ?c2 ?c3 ?c4; (case kA => exact rfl); (case kF => exact rfl); (case kK => exact hk); (case k1 => k_asm); (case k2 => exact F1); (case k3 => k_asm); (case k4 => exact N1); (case k5 => k_asm); (case k6 => k_is); (case k7 => k_is); (case k8 => ktr_room); (case k9 => (refine' kp_binds ?kx ?ke; (case kx => k_in); (case ke => exact fun _ => rfl))); (case kB => exact locs rfl); (case c1 => decide); (case c2 => exact rfl); (case c3 => exact rfl); (case c4 => exact rfl); intro g' L' h1 FG' FI NI BI XI TI lt1; (try k_lt lt1); (try dsimp only)
  refine ks_wpAt_execs_cons ?_
  refine ks_wpAt_Expr_any ?_
  refine ks_wpAt_MethodCall ?_
  refine' ks_node ?n1 ?n2 ?n3 ?n4 ?n5 ?n6 ?n7 ?n8 ?n9 ?n10 ?n11 ?n12 ?n13 ?n14 ?n15 ?n16 ?n17 ?n18 ?n19 ?n20 ?n21 ?n22 ?n23
  case n1 => k_asm
  case n2 => k_asm
  case n3 => k_asm
  case n4 => k_asm
  case n5 => k_is
  case n6 => rfl
  case n7 => rfl
  case n8 => exact (⟨(NI _ (.head _)).1, rfl, rfl, trivial⟩ : InstAt _ _ (excObj 41 tp none) 41 none)
  case n9 => k_is
  case n10 => rfl
  case n11 => decide +kernel
  case n12 => k_is
  case n13 => k_is
  case n14 => k_is
  case n15 => k_is
  case n16 => decide
  case n17 => rfl
  case n18 => rfl
  case n19 => rfl
  case n20 => rfl
  case n21 => decide +kernel
  case n22 => first | boot_by_name | rfl | kernel_rfl
  intro so h2 FJ NJ lt2
  have XJ := XI.keeps FJ.keep
  have XX2 := excI_of XJ (excI_41 w)
  have hxC : e ≠ 41 := fun q => by
    obtain ⟨nm, qn, Nn, bs, sn, sub, ab, col, dd, k0, k1, k2, k3, k5, mN, hC, -⟩ := excI_of XI (excI_41 w)
    have := (NI _ (.head _)).2.2
    rw [q, hC] at this
    cases this
  refine xi_getMethod (NJ _ (.head _)).1 (looks_opaque XJ (by k_is)) (XX2.looks "Exception" rfl).1 rfl XJ (by kernel_rfl) ?hxC (NJ _ (.tail _ (.head _))).1 rfl (XX2.looks "Exception" rfl).2 ?_
  case hxC => exact hxC
  have FM := FJ.push (mwObj e)
  have NM := News.push FJ NJ (mwObj e)
  have ltm : @LT.lt Nat _ e h2.objs.size := Heap.lt_size (NJ _ (.tail _ (.head _))).1
  generalize hu : h2.objs.size = u at *
  generalize hh3 : h2.push (mwObj e) = h3 at *
  dsimp only
  refine xi_callWith (u := u) (e := e) ?_
  k_steps
  · exact (NM _ (.head _)).1
  obtain ⟨nm3, qn3, Nn3, bs3, sn3, sub3, ab3, col3, dd3, j0, j1, j2, j3, j5, mN3, hC3, hN3, hi3, hno3⟩ := excI_of (XI.keeps FM.keep) (excI_41 w)
  refine xi_call hC3 (NM _ (.head _)).1 (NM _ (.tail _ (.tail _ (.head _)))).1 ?_
  have he4 := NM _ (.tail _ (.tail _ (.head _)))
  obtain ⟨FP, NP⟩ := news_over (pre := []) (oe' := excObj 41 h3.objs.size none) (h' := (h3.push { cls := .type "tuple", data := .seq #[.str c tc] }).update e (Obj.mapFields (·.setIfInBounds 0 (.ref h3.objs.size)))) FM (ndrop (a := [_]) (b := [_]) (ndrop (a := []) (b := [_, _]) NM)) (List.forall_mem_nil _) l1 (Heap.get?_update_self _ (Heap.get?_push_of_some _ he4.1) rfl) fun b o hb e1 => (Heap.get?_update_other _ _ (Ne.symm hb)).trans (Heap.get?_push_of_some _ e1)
  dsimp only
  generalize (h3.push { cls := .type "tuple", data := .seq #[.str c tc] }).update e (Obj.mapFields (·.setIfInBounds 0 (.ref h3.objs.size))) = h4 at *
  generalize h3.objs.size = tp4 at *
  clear NM FM hC3 hN3 hi3 hno3 NJ FJ N1 F1
  k_steps
  simp only [List.nil_append, List.append_eq] at NP
  have heN := NP _ (.head _)
  obtain ⟨nm3, qn3, Nn3, bs3, sn3, sub3, ab3, col3, dd3, j0, j1, j2, j3, j5, mN3, hC3, hN3, hi3, hno3⟩ := excI_of (XI.keeps FP.keep) (excI_41 w)
  refine xi_set1 PySem.F.store_Exception hC3 hN3 (hno3 _ (by simp [excNames])) (hno3 _ (by simp [excNames])) lk_code heN.1 rfl rfl (fun c q => by cases q) ?_
  intro h5 tk5 e5 n5 k5
  obtain ⟨FR, NR⟩ := news_over (pre := []) FP NP (List.forall_mem_nil _) l1 e5 k5
  have hdeN : h4.get? h4.objs.size = none := Heap.get?_none_of_le (Nat.le_refl _)
  have hdeE : @Ne Nat h4.objs.size e := fun q => by have := heN.1; rw [← q, hdeN] at this; cases this
  have hdeL : @Ne Nat h4.objs.size L' := fun q => by obtain ⟨o, _, _, ho, _⟩ := FP.ns; rw [← q, hdeN] at ho; cases ho
  have hdeG : g'.get? h4.objs.size = none := by
    cases q : g'.get? h4.objs.size with
    | none => rfl
    | some o => rw [FP.keep _ o q] at hdeN; cases hdeN
  have hdeM : ∀ p ∈ news, @Ne Nat p.1 h4.objs.size := fun p hp q => by have := (NP p (.tail _ hp)).1; rw [q, hdeN] at this; cases this
  generalize h4.objs.size = de at *
  clear hC3 hN3 hi3 hno3 FP NP heN he4
  dsimp only
  (try k_fold)
  k_steps
  simp only [List.nil_append] at NR
  dsimp only at e5 NR
  obtain ⟨nm3, qn3, Nn3, bs3, sn3, sub3, ab3, col3, dd3, j0, j1, j2, j3, j5, mN3, hC3, hN3, hi3, hno3⟩ := excI_of (XI.keeps FR.keep) (excI_41 w)
  have I5 : h5.Inst e 41 (fun y => if y = Str.ofString "code" then some (Value.str c tc) else none) := ⟨_, e5, rfl, (fun c q => by cases q), .inr ⟨de, rfl, hdeE, n5⟩⟩
  refine store_attr PySem.F.store_Exception hC3 hN3 (hno3 _ (by simp [excNames])) (hno3 _ (by simp [excNames])) lk_told hxC I5 ?_ (Within.cons _ _ Within.nil) (by simp [sizeLine_eq])
  intro h6 tk6 I6 k6 same6
  obtain ⟨oe6, he6, hcls6, hdat6, hsl6, hdi6⟩ := same6 _ e5
  have hdi := hdi6 de rfl
  obtain ⟨o7, he7, hc7, hn7, hd7⟩ := I6
  obtain rfl : o7 = oe6 := Option.some.inj (he7.symm.trans he6)
  rcases hd7 with ⟨hz, _⟩ | ⟨d', hd', hne', hns'⟩
  · rw [hz] at hdi; cases hdi
  obtain rfl : d' = de := Option.some.inj (hd'.symm.trans hdi)
  obtain ⟨od, es6, ep6, hod, hdd, hsk, huq, hfi⟩ := hns'
  have kk : ∀ b o, b ≠ e → b ≠ d' → h5.get? b = some o → h6.get? b = some o := fun b o q1 q2 ho => k6 b o q1 (fun o₀ dx e1 e2 => by
    obtain rfl := Option.some.inj (e5.symm.trans e1)
    obtain rfl := Option.some.inj e2
    exact q2) ho
  have heR := NR _ (.head _)
  have FS : Fr g' L' h6 _ := ⟨FR.ns.at' fun o e1 => kk _ _ (Ne.symm heR.2.1) hdeL.symm e1, fun b o e1 => kk b o (fun q => by rw [q, heR.2.2] at e1; cases e1) (fun q => by rw [q, hdeG] at e1; cases e1) (FR.keep b o e1), FR.above⟩
  have NS : News g' L' h6 ((e, o7) :: (d', od) :: news) := fun p hp => by
    rcases List.mem_cons.mp hp with rfl | hp
    · exact ⟨he6, heR.2⟩
    rcases List.mem_cons.mp hp with rfl | hp
    · exact ⟨hod, hdeL, hdeG⟩
    exact ⟨kk _ _ (l1 p hp) (hdeM p hp) (NR p (.tail _ hp)).1, (NR p (.tail _ hp)).2⟩
  have hcd : CodeD c od := fun dz hz ho => ⟨_, tc, ⟨od, es6, ep6, ho, hdd, hsk, huq, hfi⟩, rfl⟩
  clear hC3 hN3 hi3 hno3 FR NR heR k6 same6 k5 e5 n5 I5
  k_steps
  rename (News h₀ _ _ (_ :: _)) => hZ
  rename (Fr h₀ _ _ _) => hY
  exact hret e d' tp4 o7 od _ _ hc7 hdi hdat6 hcd l1 hdeE hY hZ
set_option maxHeartbeats 4000000 in
theorem basic2_c (w : World) (c : Str) (tc : Tok) (tv : Value) (hc : c.length ≤ 10) (news : List (Addr × Obj)) :
    Ctr2 w 41 4 64 [.str c tc, tv] news (fun envs base L h₀ m s Q E => ∀ (e de tp : Addr) (oe od : Obj) (h2 : Heap) (tk2 : Nat), oe.cls = .ref 41 → oe.dict = some de → oe.data = .fields #[.ref tp, .none, .none, .none, .bool false, .none] → CodeD c od → (∀ p ∈ news, @Ne Nat p.1 e) → @Ne Nat de e →
      Fr h₀ L h2 m → News h₀ L h2 ((e, oe) :: (de, od) :: news) → Q (.ref e) { s with heap := h2, toks := tk2 }) := by
  unfold Ctr2
  k_fill
  intro p loose mean mg mb dp un gd cn cs a ccd cl outer A₀ base h₀ L m s Q E B F X N T hk hdp hu hret
  obtain ⟨hh, g, d, t, os⟩ := s
  have XX := excI_of (X.keeps F.keep) (excI_41 w)
  obtain ⟨nm, qn, Nn, bs, sn, sub, ab, col, dd, k0, k1, k2, k3, k5, mN, hC, hN, hi, hno⟩ := XX
  obtain ⟨oI, hI, hIc⟩ := fn_in (f := 38) (X.keeps F.keep) (by k_is)
  refine wpAny_call_exc_init PySem.F.excBase_Exception hC hN hi hI hIc ?_
  intro h' e hm
  obtain ⟨tp, F1, N1, l1, l2, l3⟩ := news_made F N hm
  clear hm hC hN hi hI
  refine wpAny_call ?_
  refine' ks_code_super ?k1 ?k2 ?k3 ?k4 ?k5 ?kA ?kF ?kK ?k6 ?k7 ?k8 ?k9 ?kB ?_ ?c1 ?c2 ?c3 ?c4; (case kA => exact rfl); (case kF => exact rfl); (case kK => exact hk); (case k1 => k_asm); (case k2 => exact F1); (case k3 => k_asm); (case k4 => exact N1); (case k5 => k_asm); (case k6 => k_is); (case k7 => k_is); (case k8 => ktr_room); (case k9 => (refine' kp_binds ?kx ?ke; (case kx => k_in); (case ke => exact fun _ => rfl))); (case kB => exact locs rfl); (case c1 => decide); (case c2 => exact rfl); (case c3 => exact rfl); (case c4 => exact rfl); intro g' L' h1 FG' FI NI BI XI TI lt1; (try k_lt lt1); (try dsimp only)
  refine ks_wpAt_execs_cons ?_
  refine ks_wpAt_Expr_any ?_
  refine ks_wpAt_MethodCall ?_
  refine' ks_node ?n1 ?n2 ?n3 ?n4 ?n5 ?n6 ?n7 ?n8 ?n9 ?n10 ?n11 ?n12 ?n13 ?n14 ?n15 ?n16 ?n17 ?n18 ?n19 ?n20 ?n21 ?n22 ?n23
  case n1 => k_asm
  case n2 => k_asm
  case n3 => k_asm
  case n4 => k_asm
  case n5 => k_is
  case n6 => rfl
  case n7 => rfl
  case n8 => exact (⟨(NI _ (.head _)).1, rfl, rfl, trivial⟩ : InstAt _ _ (excObj 41 tp none) 41 none)
  case n9 => k_is
  case n10 => rfl
  case n11 => decide +kernel
  case n12 => k_is
  case n13 => k_is
  case n14 => k_is
  case n15 => k_is
  case n16 => decide
  case n17 => rfl
  case n18 => rfl
  case n19 => rfl
  case n20 => rfl
  case n21 => decide +kernel
  case n22 => first | boot_by_name | rfl | kernel_rfl
  intro so h2 FJ NJ lt2
  have XJ := XI.keeps FJ.keep
  have XX2 := excI_of XJ (excI_41 w)
  have hxC : e ≠ 41 := fun q => by
    obtain ⟨nm, qn, Nn, bs, sn, sub, ab, col, dd, k0, k1, k2, k3, k5, mN, hC, -⟩ := excI_of XI (excI_41 w)
    have := (NI _ (.head _)).2.2
    rw [q, hC] at this
    cases this
  refine xi_getMethod (NJ _ (.head _)).1 (looks_opaque XJ (by k_is)) (XX2.looks "Exception" rfl).1 rfl XJ (by kernel_rfl) ?hxC (NJ _ (.tail _ (.head _))).1 rfl (XX2.looks "Exception" rfl).2 ?_
  case hxC => exact hxC
  have FM := FJ.push (mwObj e)
  have NM := News.push FJ NJ (mwObj e)
  have ltm : @LT.lt Nat _ e h2.objs.size := Heap.lt_size (NJ _ (.tail _ (.head _))).1
  generalize hu : h2.objs.size = u at *
  generalize hh3 : h2.push (mwObj e) = h3 at *
  dsimp only
  refine xi_callWith (u := u) (e := e) ?_
  k_steps
  · exact (NM _ (.head _)).1
  obtain ⟨nm3, qn3, Nn3, bs3, sn3, sub3, ab3, col3, dd3, j0, j1, j2, j3, j5, mN3, hC3, hN3, hi3, hno3⟩ := excI_of (XI.keeps FM.keep) (excI_41 w)
  refine xi_call hC3 (NM _ (.head _)).1 (NM _ (.tail _ (.tail _ (.head _)))).1 ?_
  have he4 := NM _ (.tail _ (.tail _ (.head _)))
  obtain ⟨FP, NP⟩ := news_over (pre := []) (oe' := excObj 41 h3.objs.size none) (h' := (h3.push { cls := .type "tuple", data := .seq #[.str c tc] }).update e (Obj.mapFields (·.setIfInBounds 0 (.ref h3.objs.size)))) FM (ndrop (a := [_]) (b := [_]) (ndrop (a := []) (b := [_, _]) NM)) (List.forall_mem_nil _) l1 (Heap.get?_update_self _ (Heap.get?_push_of_some _ he4.1) rfl) fun b o hb e1 => (Heap.get?_update_other _ _ (Ne.symm hb)).trans (Heap.get?_push_of_some _ e1)
  dsimp only
  generalize (h3.push { cls := .type "tuple", data := .seq #[.str c tc] }).update e (Obj.mapFields (·.setIfInBounds 0 (.ref h3.objs.size))) = h4 at *
  generalize h3.objs.size = tp4 at *
  clear NM FM hC3 hN3 hi3 hno3 NJ FJ N1 F1
  k_steps
  simp only [List.nil_append, List.append_eq] at NP
  have heN := NP _ (.head _)
  obtain ⟨nm3, qn3, Nn3, bs3, sn3, sub3, ab3, col3, dd3, j0, j1, j2, j3, j5, mN3, hC3, hN3, hi3, hno3⟩ := excI_of (XI.keeps FP.keep) (excI_41 w)
  refine xi_set1 PySem.F.store_Exception hC3 hN3 (hno3 _ (by simp [excNames])) (hno3 _ (by simp [excNames])) lk_code heN.1 rfl rfl (fun c q => by cases q) ?_
  intro h5 tk5 e5 n5 k5
  obtain ⟨FR, NR⟩ := news_over (pre := []) FP NP (List.forall_mem_nil _) l1 e5 k5
  have hdeN : h4.get? h4.objs.size = none := Heap.get?_none_of_le (Nat.le_refl _)
  have hdeE : @Ne Nat h4.objs.size e := fun q => by have := heN.1; rw [← q, hdeN] at this; cases this
  have hdeL : @Ne Nat h4.objs.size L' := fun q => by obtain ⟨o, _, _, ho, _⟩ := FP.ns; rw [← q, hdeN] at ho; cases ho
  have hdeG : g'.get? h4.objs.size = none := by
    cases q : g'.get? h4.objs.size with
    | none => rfl
    | some o => rw [FP.keep _ o q] at hdeN; cases hdeN
  have hdeM : ∀ p ∈ news, @Ne Nat p.1 h4.objs.size := fun p hp q => by have := (NP p (.tail _ hp)).1; rw [q, hdeN] at this; cases this
  generalize h4.objs.size = de at *
  clear hC3 hN3 hi3 hno3 FP NP heN he4
  dsimp only
  (try k_fold)
  k_steps
  simp only [List.nil_append] at NR
  dsimp only at e5 NR
  obtain ⟨nm3, qn3, Nn3, bs3, sn3, sub3, ab3, col3, dd3, j0, j1, j2, j3, j5, mN3, hC3, hN3, hi3, hno3⟩ := excI_of (XI.keeps FR.keep) (excI_41 w)
  have I5 : h5.Inst e 41 (fun y => if y = Str.ofString "code" then some (Value.str c tc) else none) := ⟨_, e5, rfl, (fun c q => by cases q), .inr ⟨de, rfl, hdeE, n5⟩⟩
  refine store_attr PySem.F.store_Exception hC3 hN3 (hno3 _ (by simp [excNames])) (hno3 _ (by simp [excNames])) lk_told hxC I5 ?_ (Within.cons _ _ Within.nil) (by simp [sizeLine_eq])
  intro h6 tk6 I6 k6 same6
  obtain ⟨oe6, he6, hcls6, hdat6, hsl6, hdi6⟩ := same6 _ e5
  have hdi := hdi6 de rfl
  obtain ⟨o7, he7, hc7, hn7, hd7⟩ := I6
  obtain rfl : o7 = oe6 := Option.some.inj (he7.symm.trans he6)
  rcases hd7 with ⟨hz, _⟩ | ⟨d', hd', hne', hns'⟩
  · rw [hz] at hdi; cases hdi
  obtain rfl : d' = de := Option.some.inj (hd'.symm.trans hdi)
  obtain ⟨od, es6, ep6, hod, hdd, hsk, huq, hfi⟩ := hns'
  have kk : ∀ b o, b ≠ e → b ≠ d' → h5.get? b = some o → h6.get? b = some o := fun b o q1 q2 ho => k6 b o q1 (fun o₀ dx e1 e2 => by
    obtain rfl := Option.some.inj (e5.symm.trans e1)
    obtain rfl := Option.some.inj e2
    exact q2) ho
  have heR := NR _ (.head _)
  have FS : Fr g' L' h6 _ := ⟨FR.ns.at' fun o e1 => kk _ _ (Ne.symm heR.2.1) hdeL.symm e1, fun b o e1 => kk b o (fun q => by rw [q, heR.2.2] at e1; cases e1) (fun q => by rw [q, hdeG] at e1; cases e1) (FR.keep b o e1), FR.above⟩
  have NS : News g' L' h6 ((e, o7) :: (d', od) :: news) := fun p hp => by
    rcases List.mem_cons.mp hp with rfl | hp
    · exact ⟨he6, heR.2⟩
    rcases List.mem_cons.mp hp with rfl | hp
    · exact ⟨hod, hdeL, hdeG⟩
    exact ⟨kk _ _ (l1 p hp) (hdeM p hp) (NR p (.tail _ hp)).1, (NR p (.tail _ hp)).2⟩
  have hcd : CodeD c od := fun dz hz ho => ⟨_, tc, ⟨od, es6, ep6, ho, hdd, hsk, huq, hfi⟩, rfl⟩
  clear hC3 hN3 hi3 hno3 FR NR heR k6 same6 k5 e5 n5 I5
  k_steps
  rename (News h₀ _ _ (_ :: _)) => hZ
  rename (Fr h₀ _ _ _) => hY
  exact hret e d' tp4 o7 od _ _ hc7 hdi hdat6 hcd l1 hdeE hY hZ
end Mine
end
section
namespace Mine
theorem startC21 : True := by
  w_top off
  trivial
end Mine
open PySem PySem.W PyProof.Rows PySem.Calls PyProof.V PySem.Spec
namespace Mine
section
variable {M : Model} {A : Around} {E : Value → Shared → Prop} {env : Env} {s : Shared}
variable {nm qn : Str} {C N : Addr} {bs bm : List Value} {hdct : Bool} {sn : List Str} {sub : List Value} {ab : Bool} {col : Option Bool} {dd : Option Addr} {k0 k1 k2 k3 k5 : Option Value} {newId : String}
/-- what a raise of an own exception needs -/
noncomputable def Raising (C : Addr) (bm : List Value) (E : Value → Shared → Prop) (v : Value) (s₁ : Shared) : Prop :=
  ∃ e oe tp nm qn N bs hdct sn sub ab col dd k0 k1 k2 k3 k5 newId, v = .ref e ∧ s₁.heap.get? C = some (excClassObj nm qn C N bs bm hdct sn sub ab col dd k0 k1 k2 k3 k5 newId) ∧ s₁.heap.get? e = some oe ∧ oe.cls = .ref C ∧ oe.data = .fields #[.ref tp, .none, .none, .none, .bool false, .none] ∧ E (.ref e) s₁
theorem xr_stmt {x : Sem Value} {Q : Flow → Shared → Prop} (hbase : bm.contains (.type "BaseException") = true) (hh : A.handled = none)
    (h : wpAny M A x (Raising C bm E) E s) : wpAny M A (raiseStmt env (some x) none) Q E s := by
  have hcB : (Value.ref C :: bm).contains (.type "BaseException") = true := by rw [List.contains_cons, hbase, Bool.or_true]
  unfold raiseStmt
  refine wpAny_bind (wpAny_mono h (fun v s₁ h₁ => ?_) fun _ _ x => x)
  obtain ⟨e, ⟨oc, od, odt, osl⟩, tp, nm, qn, N, bs, hdct, sn, sub, ab, col, dd, k0, k1, k2, k3, k5, newId, rfl, hC, he, hc, hdt, hE⟩ := h₁
  dsimp only at hc hdt
  subst hc hdt
  obtain ⟨hp, g, d, tk, os⟩ := s₁
  repeat (first | (with_reducible refine wpAny_loadPart_at he ?_) | with_reducible refine wpAny_loadPart_at hC ?_ | (with_reducible refine wpAny_isSubtype_exc hC ?_; rw [hcB]) | wp_step)
  exact wpAny_raiseNew_none hh hE
theorem xr_raise {ex : PySem.Expr} {pos : Pos} {Q : Flow → Shared → Prop} (hbase : bm.contains (.type "BaseException") = true) (hh : A.handled = none)
    (h : wpAny M A (eval ex env) (Raising C bm E) E s) : wpAny M A (exec (.Raise (some ex) none pos) env) Q E s := by
  rw [arm_exec_Raise]
  refine wpAny_bind (wpAny_standAt (xr_stmt hbase hh (wpAny_bind (wpAny_mono h (fun v s₃ h₃ => wpAny_bind (wpAny_standAt (wpAny_pure h₃))) fun _ _ x => x))))
end
/-- an own exception in flight, its dict known -/
noncomputable def RaisedD (base G : Heap) (l : List Env) (e : Addr) (cls : Value) (de : Addr) (news : List (Addr × Obj)) (h : Heap) : Prop :=
  ∃ B a0, base.StaysIn B ∧ (∀ b o, G.get? b = some o → b ∉ l.filterMap (·.frame) → B.get? b = some o) ∧ (∀ q ∈ news, B.get? q.1 = some q.2 ∧ G.get? q.1 = none ∧ base.get? q.1 = none) ∧ Heap.FlyingW B l e cls a0 h ∧ KD e de h
section
variable {M : Model} {A : Around} {E : Value → Shared → Prop} {s' : Shared} {base g : Heap} {outer : List Env} {L a e de tp : Addr} {m : Str → Option Value} {name : Str} {scope : Scope} {cd : Value} {Q : Unit → Shared → Prop} {news : List (Addr × Obj)} {oe : Obj} {cls : Value}
theorem leave_exc (K : Below A base outer g) (F : Fr g L s'.heap m) (N : News g L s'.heap ((e, oe) :: news)) (hoff : ∀ p ∈ news, @Ne Nat p.1 e) (hcls : oe.cls = cls) (hdi : oe.dict = some de) (hdat : oe.data = .fields #[.ref tp, .none, .none, .none, .bool false, .none])
    (hQ : ∀ h', RaisedD base g outer e cls de news h' → g.UpToSlots h' → Q () { s' with heap := h' }) (hk : scope.kind = .function := by rfl) :
    wpAny M (A.deeper (envOf name scope L a cd)) (leaving (envOf name scope L a cd) (.ref e)) Q E s' := by
  have K' := K.push (name := name) (a := a) (cd := cd) F hk
  have ne := N _ (.head _)
  let fs := e :: (envOf name scope L a cd :: outer).filterMap (·.frame)
  have hin : ∀ env ∈ (envOf name scope L a cd :: outer), ∀ b, env.frame = some b → b ∈ fs := fun env he b hb => List.mem_cons_of_mem _ (List.mem_filterMap.mpr ⟨env, he, hb⟩)
  have eb : base.get? e = none := fresh_of_stays K.stays ne.2.2
  have st : base.StaysIn (hideAll s'.heap fs) := fun b o q => hideAll_get _ (K'.stays b o q) fun hm => by
    rcases List.mem_cons.mp hm with z | hm
    · rw [z, eb] at q; cases q
    · rw [(K'.frames.mem hm).1] at q; cases q
  have sg : ∀ b o, g.get? b = some o → b ∉ outer.filterMap (·.frame) → (hideAll s'.heap fs).get? b = some o := fun b o q nm => hideAll_get _ (F.keep b o q) fun hm => by
    rcases List.mem_cons.mp hm with z | hm
    · rw [z, ne.2.2] at q; cases q
    · rcases kts_mem hm with z | z
      · rw [z, kts_self F] at q
        cases q
      · exact nm z
  have hl : ∀ q ∈ news, (hideAll s'.heap fs).get? q.1 = some q.2 ∧ g.get? q.1 = none ∧ base.get? q.1 = none := fun q hq => by
    have nq := N _ (.tail _ hq)
    refine ⟨hideAll_get _ nq.1 fun hm => ?_, nq.2.2, fresh_of_stays K.stays nq.2.2⟩
    rcases List.mem_cons.mp hm with z | hm
    · exact hoff q hq z
    obtain ⟨env, he, hf⟩ := List.mem_filterMap.mp hm
    rcases List.mem_cons.mp he with rfl | he
    · exact nq.2.1 (Option.some.inj hf).symm
    · obtain ⟨o, ho, _⟩ := (K.frames.mem (List.mem_filterMap.mpr ⟨env, he, hf⟩)).2
      rw [nq.2.2] at ho; cases ho
  have hen : (hideAll s'.heap fs).get? e = none := hideAll_none _ (List.Mem.head _)
  have kd : KD e de s'.heap := ⟨oe, ne.1, hdi⟩
  refine wpAny_mono (wpAny_tame (tame_leaving _ _) kd (wpAny_leaving_firstW (a0 := .ref tp) (E := E) (Q := fun _ s₁ => ∃ h', s₁ = { s' with heap := h' } ∧ Heap.LeftW (hideAll s'.heap fs) (envOf name scope L a cd :: outer) e oe.cls (.ref tp) s'.heap h') K'.stack (funFrames_hide K'.frames hin) rfl ne.1 (fun b o hb => of_hideAll _ hb) hen hdat rfl rfl fun h' hL => ⟨h', rfl, hL⟩)) (fun _ s₁ hq => ?_) fun _ _ x => x.1
  obtain ⟨⟨h', rfl, hL⟩, kd'⟩ := hq
  obtain ⟨k1, ⟨_, _, k2⟩, k3, k4⟩ := hL
  rw [hcls] at k3
  exact hQ h' ⟨_, .ref tp, st, sg, hl, ⟨k1, hen, k2, k3⟩, kd'⟩ ((Heap.UpToSlots.of_keeps F.keep).trans k4)
end
section
variable {M : Model} {A : Around} {E : Value → Shared → Prop} {s : Shared} {base : Heap} {env : Env} {outer l : List Env} {L e de : Addr} {cls a0 : Value} {Q : Unit → Shared → Prop}
theorem looks_exc (hfr : A.frames = some (env :: outer)) (hf : env.frame = some L) (hfl : Heap.FlyingW base (env :: outer) e cls a0 s.heap) (kd : KD e de s.heap)
    (hQ : ∀ h', Heap.HeldW base (env :: outer) e cls a0 L h' → s.heap.UpToSlots h' → KD e de h' → Q () { s with heap := h' }) : wpAny M A (noteFrame (.ref e) env) Q E s := by
  refine wpAny_mono (wpAny_tame (tame_noteFrame _ _) kd (wpAny_looks_onW (E := E) (Q := fun _ s₁ => ∃ h', s₁ = { s with heap := h' } ∧ Heap.HeldW base (env :: outer) e cls a0 L h' ∧ s.heap.UpToSlots h') hfr hf hfl fun h' a b => ⟨h', rfl, a, b⟩)) (fun _ s₁ hq => ?_) fun _ _ x => x.1
  obtain ⟨⟨h', rfl, a, b⟩, kd'⟩ := hq
  exact hQ h' a b kd'
theorem lands_exc (hh : Heap.HeldW base l e cls a0 L s.heap) (kd : KD e de s.heap)
    (hQ : ∀ h', Heap.FlyingW base l e cls a0 h' → s.heap.UpToSlots h' → KD e de h' → Q () { s with heap := h' }) : wpAny M A (setFlight (.ref e) none) Q E s := by
  refine wpAny_mono (wpAny_tame (tame_setFlight _ _) kd (wpAny_landsW (E := E) (Q := fun _ s₁ => ∃ h', s₁ = { s with heap := h' } ∧ Heap.FlyingW base l e cls a0 h' ∧ s.heap.UpToSlots h') hh fun h' a b => ⟨h', rfl, a, b⟩)) (fun _ s₁ hq => ?_) fun _ _ x => x.1
  obtain ⟨⟨h', rfl, a, b⟩, kd'⟩ := hq
  exact hQ h' a b kd'
theorem again_exc (hh : Heap.FlyingW base l e cls a0 s.heap) (kd : KD e de s.heap)
    (hQ : ∀ h', Heap.FlyingW base l e cls a0 h' → s.heap.UpToSlots h' → KD e de h' → Q () { s with heap := h' }) : wpAny M A (setFlight (.ref e) none) Q E s := by
  refine wpAny_mono (wpAny_tame (tame_setFlight _ _) kd (lands_againW (E := E) (Q := fun _ s₁ => ∃ h', s₁ = { s with heap := h' } ∧ Heap.FlyingW base l e cls a0 h' ∧ s.heap.UpToSlots h') hh fun h' a b => ⟨h', rfl, a, b⟩)) (fun _ s₁ hq => ?_) fun _ _ x => x.1
  obtain ⟨⟨h', rfl, a, b⟩, kd'⟩ := hq
  exact hQ h' a b kd'
end
section
variable {prog : Program} {w : World} {A₀ : Around} {E : Value → Shared → Prop} {s' : Shared} {base g g₀ G : Heap} {outer : List Env} {L a e de C : Addr} {m : Str → Option Value} {name : Str} {scope : Scope} {cd : Value}
  {n : Str} {b₀ : Stmt} {suite : List Stmt} {pos np : Pos} {rest : List ExceptHandler} {Q : Flow → Shared → Prop} {news : List (Addr × Obj)} {KF : Frag}
  {p : Program} {loose : List Str} {mean : ExcName → Option Value} {mg mb : Str → Option Value} {x : Str}
end
theorem raising_mk {w : World} {h₀ : Heap} {L e tp : Addr} {m : Str → Option Value} {E : Value → Shared → Prop} {s : Shared} {oe : Obj} {news : List (Addr × Obj)} (X : (hd.heap_1 w.params).In h₀) (F : Fr h₀ L s.heap m) (N : News h₀ L s.heap ((e, oe) :: news))
    (hcls : oe.cls = .ref 41) (hdat : oe.data = .fields #[.ref tp, .none, .none, .none, .bool false, .none]) (hE : E (.ref e) s) : Raising 41 excBm E (.ref e) s := by
  obtain ⟨nm, qn, Nn, bs, sn, sub, ab, col, dd, k0, k1, k2, k3, k5, mN, hC, -⟩ := excI_of (X.keeps F.keep) (excI_41 w)
  exact ⟨e, oe, tp, nm, qn, Nn, bs, true, sn, sub, ab, col, dd, k0, k1, k2, k3, k5, _, rfl, hC, (N _ (.head _)).1, hcls, hdat, hE⟩
end Mine
end
section
namespace Mine
theorem startC22 : True := by
  w_top off
  trivial
end Mine
open PySem PySem.W PyProof.Rows PySem.Calls PyProof.V PySem.Spec
namespace Mine
/-- a list's items are the ledger's pairs of a line and a text -/
noncomputable def TupsIn (news : List (Addr × Obj)) (vs : List Value) (ds : List (Int × Str)) : Prop :=
  vs.length = ds.length ∧ ∀ (i : Nat) d, ds[i]? = some d → ∃ T t u, vs[i]? = some (.ref T) ∧ (T, tupO [.int d.1 t, .str d.2 u]) ∈ news
theorem TupsIn.mono {news news2 : List (Addr × Obj)} {vs : List Value} {ds : List (Int × Str)} (h : TupsIn news vs ds) (k : ∀ p ∈ news, p ∈ news2) : TupsIn news2 vs ds :=
  ⟨h.1, fun i d hd => let ⟨T, t, u, a, b⟩ := h.2 i d hd; ⟨T, t, u, a, k _ b⟩⟩
noncomputable def ValR (v : PyData) (r : Value) : Prop := (∃ y t, v = .str y ∧ r = .str y t) ∨ (∃ n t, v = .int n ∧ r = .int n t)
section
variable {prog : Program} {w : World} {A : Around} {E : Value → Shared → Prop} {s : Shared}
theorem item_gen {value slice : PySem.Expr} {l : Addr} {vs : List Value} {k : Int} {u : Tok} {v : Value} {Q : Value → Shared → Prop} (hl : s.heap.IsList l vs.toArray) (h0 : 0 ≤ k) (hfit : k < 2 ^ 63) (hx : vs[k.toNat]? = some v) (h : Q v s)
    (hs : subscripted slice false (.ref l) (.int k u) = operate [.ref l, .int k u] (getItem (.ref l) (.int k u)) := by with_unfolding_all rfl) :
    wpAny (model prog w) A (subscriptTail value slice (.ref l) (.int k u)) Q E s :=
  tail_any hl.typeIs slot_list_getitem.lookup (wpAny_getItem_list hl h0 hfit (by simpa using hx) h) hs
end
local macro_rules | `(tactic| k_all) => `(tactic| first | assumption | exact List.forall_mem_cons.mpr ⟨by k_ne, by assumption⟩)
local macro_rules | `(tactic| walk_at "exec Raise some none") => `(tactic| (k_here; refine xr_raise (C := 41) (bm := excBm) rfl rfl ?_))
local macro_rules | `(tactic| walk_at "subscriptTail Name Attribute ref int") => `(tactic| (refine Stop.out ?_))
local macro_rules | `(tactic| walk_at "subscriptTail Attribute Attribute ref int") => `(tactic| (refine Stop.out ?_))

set_option maxHeartbeats 4000000 in
theorem read_item_c (w : World) (x dx da : Addr) (ov rv iv : Value) (dvs : List Value) (ds : List (Int × Str)) (dn : Nat) (sp : Nat) (hsp : sp ≤ ds.length) (hdl : ds.length ≤ 10) (ts : Tok) (es : List DictEntry) (hes : WD w ov rv iv (.ref da) (.int (sp : Int) ts) es)
    (hdo : ∀ d ∈ ds, d.2.length ≤ 20 ∧ PyData.strOk d.2 = true) (k : Str) (tk : Tok) (news : List (Addr × Obj)) (hti : TupsIn news dvs ds) (hd1 : @Ne Nat x dx) (hd2 : @Ne Nat da x) (hd3 : @Ne Nat da dx) (hd5 : ∀ p ∈ news, p.1 ≠ x) (hd6 : ∀ p ∈ news, p.1 ≠ dx) :
    Ctr2 w 141 8 512 [.ref x, .str k tk, .ref 176] ((x, instObj 166 dx) :: (dx, dictOf es 28) :: (da, W.listOf dvs.toArray dn) :: news) (fun envs base L h₀ m s Q E =>
      (∀ d v, ds[sp]? = some d → valF k d.2 = some v → ∀ (h2 : Heap) (tk2 : Nat) (r : Value) (es2 : List DictEntry) (t2 : Tok), ValR v r → WD w ov rv iv (.ref da) (.int ((sp : Int) + 1) t2) es2 → Fr h₀ L h2 m → News h₀ L h2 ((x, instObj 166 dx) :: (dx, dictOf es2 28) :: (da, W.listOf dvs.toArray dn) :: news) → Q r { s with heap := h2, toks := tk2 }) ∧
      (∀ c, ((ds[sp]? = none ∧ c = Str.ofString "OD") ∨ ∃ d, ds[sp]? = some d ∧ valF k d.2 = none ∧ c = Str.ofString "SN") → ∀ (h2 g2 : Heap) (tk2 : Nat) (e de : Addr) (od : Obj), CodeD c od → Fr h₀ L g2 m → g2.UpToSlots h2 → RaisedD base g2 envs e (.ref 41) de ((de, od) :: (x, instObj 166 dx) :: (dx, dictOf es 28) :: (da, W.listOf dvs.toArray dn) :: news) h2 → E (.ref e) { s with heap := h2, toks := tk2 })) := by
  obtain ⟨T0, U0, rfl⟩ := hes.ex
  (try dsimp only at *)
  unfold Ctr2
  k_fill
  intro p loose mean mg mb dp un gd cn cs a ccd cl outer A₀ base h₀ L m s Q E B F X N T hk hdp hu hret
  refine wpAny_call ?_
  k_dflt ktr_enter
  refine (let aw : PySem.Around := _; let ev : PySem.Env := _; let qe : PySem.Flow → PySem.Shared → Prop := _; let ee : PySem.Value → PySem.Shared → Prop := _; (?_ : PySem.wpAny _ aw (PySem.execs _ ev) qe ee _))
  have hsz : (dvs.toArray.size : Int) = ((ds.length : Nat) : Int) := by rw [List.size_toArray, hti.1]
  (repeat' (first | ((fail_if_success (fail_if_success (with_reducible show wpAny _ _ (call (Value.ref _) (_ :: _)) _ _ _))); (k_here; k_dflt (first | (refine' basic_c _ _ _ ?zqhc0 _ _ _ _ _ _ _ _ _ _ _ _ _ _ _ _ _ _ _ _ _ _ _ ?zqk1 ?zqk2 ?zqk3 ?zqk4 ?zqk5 ?zqkK ?zqkd ?zqku ?_; (case zqk1 => k_asm); (case zqk2 => k_asm); (case zqk3 => k_asm); (case zqk4 => k_asm); (case zqk5 => k_asm); (case zqkK => first | exact rfl | assumption); (case zqhc0 => decide); (case zqkd => ktr_room); (case zqku => ktr_units); (intro e9 de9 tp9 oe9 od9 h9 tk9 hcls9 hdi9 hdat9 hcd9 hne9 hde9 F9 N9; refine' raising_mk ?zqrX ?zqrF ?zqrN ?zqrc ?zqrd ?_; (case zqrX => assumption); (case zqrF => exact F9); (case zqrN => exact N9); (case zqrc => exact hcls9); (case zqrd => exact hdat9); (try dsimp only))) | (refine' basic2_c _ _ _ _ ?zqhc0 _ _ _ _ _ _ _ _ _ _ _ _ _ _ _ _ _ _ _ _ _ _ _ ?zqk1 ?zqk2 ?zqk3 ?zqk4 ?zqk5 ?zqkK ?zqkd ?zqku ?_; (case zqk1 => k_asm); (case zqk2 => k_asm); (case zqk3 => k_asm); (case zqk4 => k_asm); (case zqk5 => k_asm); (case zqkK => first | exact rfl | assumption); (case zqhc0 => decide); (case zqkd => ktr_room); (case zqku => ktr_units); (intro e9 de9 tp9 oe9 od9 h9 tk9 hcls9 hdi9 hdat9 hcd9 hne9 hde9 F9 N9; refine' raising_mk ?zqrX ?zqrF ?zqrN ?zqrc ?zqrd ?_; (case zqrX => assumption); (case zqrF => exact F9); (case zqrN => exact N9); (case zqrc => exact hcls9); (case zqrd => exact hdat9); (try dsimp only))) | (refine' value_of_field_c _ _ _ _ _ ?zqhx0 ?zqho0 _ _ _ _ _ _ _ _ _ _ _ _ _ _ _ _ _ _ _ _ _ _ _ ?zqk1 ?zqk2 ?zqk3 ?zqk4 ?zqk5 ?zqkK ?zqkd ?zqku ?_; (case zqk1 => k_asm); (case zqk2 => k_asm); (case zqk3 => k_asm); (case zqk4 => k_asm); (case zqk5 => k_asm); (case zqkK => first | exact rfl | assumption); (case zqhx0 => assumption); (case zqho0 => assumption); (case zqkd => ktr_room); (case zqku => ktr_units); refine ⟨fun hvf hkt => ?zqvn, fun hkt => ?zqvt, fun n9 hvf hkt => ?zqvi⟩ <;> (refine Ret.use ?_; intro t9 h9 tk9 F9 N9; (try dsimp only); (try refine (let aw : PySem.Around := _; let ev : PySem.Env := _; let qe : PySem.Flow → PySem.Shared → Prop := _; let ee : PySem.Value → PySem.Shared → Prop := _; (?_ : PySem.wpAny _ aw (PySem.execs _ ev) qe ee _)))))))) | ((fail_if_success (fail_if_success (with_reducible show wpAny _ _ (leaving _ (Value.ref _)) _ _ _))); (k_here; (refine' leave_exc ?zqk1 ?zqk2 ?zqk3 ?zqk4 ?zqk5 ?zqk6 ?zqk7 ?_; (case zqk1 => assumption); (case zqk2 => k_asm); (case zqk3 => assumption); (case zqk4 => exact List.forall_mem_cons.mpr ⟨by assumption, by assumption⟩); (case zqk5 => assumption); (case zqk6 => assumption); (case zqk7 => assumption); k_whole; intro h' R' U'; (try dsimp only at R' U' ⊢)))) | ((fail_if_success (fail_if_success (with_reducible show wpAny _ _ (call (Value.builtin "len") (_ :: _)) _ _ _))); (k_here; (with_reducible show wpAny _ _ (call (Value.builtin "len") [Value.ref _]) _ _ _); k_dflt (refine' kun_lenL (News.isList ?zqa ?zqa2) ?zqb ?zqc ?_; (case zqa => k_asm); (case zqa2 => first | exact .head _ | exact .tail _ (.head _) | exact .tail _ (.tail _ (.head _)) | exact .tail _ (.tail _ (.tail _ (.head _))) | exact .tail _ (.tail _ (.tail _ (.tail _ (.head _))))); (case zqb => assumption); (case zqc => first | exact q9 ‹_› | omega); k_whole))) | ((with_reducible show wpAny _ _ (setAttr (Value.ref _) (Str.ofString "spot") _) _ _ _); k_here; k_dflt (refine' setW_spot ?zk1 ?zk2 ?zk3 ?zk4 ?zk5 ?zk6 ?zk7 ?zk8 ?zk9 ?zk12 ?_; (case zk1 => k_asm); (case zk2 => k_asm); (case zk3 => k_asm); (case zk4 => k_inst); (case zk5 => exact rfl); (case zk6 => k_is); (case zk7 => k_is); (case zk8 => k_is); (case zk9 => k_is); (case zk12 => k_upd); k_whole; intro h' F' N'; (try k_sweep))) | (k_unfold; (try dsimp only)) | (k_end; wrow_close) | walk1 | (dsimp only; first | walk1 | (fail_if_success (fail_if_success (with_reducible show wpAny _ _ (call (Value.builtin "len") (_ :: _)) _ _ _))) | (fail_if_success (fail_if_success (with_reducible show wpAny _ _ (call (Value.ref _) (_ :: _)) _ _ _))) | (fail_if_success (fail_if_success (with_reducible show wpAny _ _ (leaving _ (Value.ref _)) _ _ _)))) | (leave1; walk_say "STEP leave1"; try dsimp only) | fail "no step"))
  · rename (RaisedD _ _ _ _ _ _ _ _) => hS
    rename (Heap.UpToSlots _ _) => hU
    rename (CodeD _ _) => hcd
    exact hret.2 _ (.inl ⟨List.getElem?_eq_none (by omega), rfl⟩) _ _ _ _ _ _ hcd (by k_asm) hU hS
  refine Stop.mk ?_
  rename (News _ _ _ _) => lN
  have hsp2 : sp < ds.length := by omega
  obtain ⟨d, hd⟩ : ∃ d, ds[sp]? = some d := ⟨_, List.getElem?_eq_getElem hsp2⟩
  obtain ⟨hdo1, hdo2⟩ := hdo d (List.mem_of_getElem? hd)
  obtain ⟨TT, tt1, tt2, hTv, hTm⟩ := hti.2 sp d hd
  refine' item_gen (News.isList lN (.tail _ (.tail _ (.head _)))) ?i0 ?i1 ?i2 ?_
  case i0 => omega
  case i1 => omega
  case i2 => exact hTv
  have hTm2 := News.isTup lN (.tail _ (.tail _ (.tail _ hTm)))
  (repeat' (first | ((fail_if_success (fail_if_success (with_reducible show wpAny _ _ (call (Value.ref _) (_ :: _)) _ _ _))); (k_here; k_dflt (first | (refine' basic_c _ _ _ ?zqhc0 _ _ _ _ _ _ _ _ _ _ _ _ _ _ _ _ _ _ _ _ _ _ _ ?zqk1 ?zqk2 ?zqk3 ?zqk4 ?zqk5 ?zqkK ?zqkd ?zqku ?_; (case zqk1 => k_asm); (case zqk2 => k_asm); (case zqk3 => k_asm); (case zqk4 => k_asm); (case zqk5 => k_asm); (case zqkK => first | exact rfl | assumption); (case zqhc0 => decide); (case zqkd => ktr_room); (case zqku => ktr_units); (intro e9 de9 tp9 oe9 od9 h9 tk9 hcls9 hdi9 hdat9 hcd9 hne9 hde9 F9 N9; refine' raising_mk ?zqrX ?zqrF ?zqrN ?zqrc ?zqrd ?_; (case zqrX => assumption); (case zqrF => exact F9); (case zqrN => exact N9); (case zqrc => exact hcls9); (case zqrd => exact hdat9); (try dsimp only))) | (refine' basic2_c _ _ _ _ ?zqhc0 _ _ _ _ _ _ _ _ _ _ _ _ _ _ _ _ _ _ _ _ _ _ _ ?zqk1 ?zqk2 ?zqk3 ?zqk4 ?zqk5 ?zqkK ?zqkd ?zqku ?_; (case zqk1 => k_asm); (case zqk2 => k_asm); (case zqk3 => k_asm); (case zqk4 => k_asm); (case zqk5 => k_asm); (case zqkK => first | exact rfl | assumption); (case zqhc0 => decide); (case zqkd => ktr_room); (case zqku => ktr_units); (intro e9 de9 tp9 oe9 od9 h9 tk9 hcls9 hdi9 hdat9 hcd9 hne9 hde9 F9 N9; refine' raising_mk ?zqrX ?zqrF ?zqrN ?zqrc ?zqrd ?_; (case zqrX => assumption); (case zqrF => exact F9); (case zqrN => exact N9); (case zqrc => exact hcls9); (case zqrd => exact hdat9); (try dsimp only))) | (refine' value_of_field_c _ _ _ _ _ ?zqhx0 ?zqho0 _ _ _ _ _ _ _ _ _ _ _ _ _ _ _ _ _ _ _ _ _ _ _ ?zqk1 ?zqk2 ?zqk3 ?zqk4 ?zqk5 ?zqkK ?zqkd ?zqku ?_; (case zqk1 => k_asm); (case zqk2 => k_asm); (case zqk3 => k_asm); (case zqk4 => k_asm); (case zqk5 => k_asm); (case zqkK => first | exact rfl | assumption); (case zqhx0 => assumption); (case zqho0 => assumption); (case zqkd => ktr_room); (case zqku => ktr_units); refine ⟨fun hvf hkt => ?zqvn, fun hkt => ?zqvt, fun n9 hvf hkt => ?zqvi⟩ <;> (refine Ret.use ?_; intro t9 h9 tk9 F9 N9; (try dsimp only); (try refine (let aw : PySem.Around := _; let ev : PySem.Env := _; let qe : PySem.Flow → PySem.Shared → Prop := _; let ee : PySem.Value → PySem.Shared → Prop := _; (?_ : PySem.wpAny _ aw (PySem.execs _ ev) qe ee _)))))))) | ((fail_if_success (fail_if_success (with_reducible show wpAny _ _ (leaving _ (Value.ref _)) _ _ _))); (k_here; (refine' leave_exc ?zqk1 ?zqk2 ?zqk3 ?zqk4 ?zqk5 ?zqk6 ?zqk7 ?_; (case zqk1 => assumption); (case zqk2 => k_asm); (case zqk3 => assumption); (case zqk4 => exact List.forall_mem_cons.mpr ⟨by assumption, by assumption⟩); (case zqk5 => assumption); (case zqk6 => assumption); (case zqk7 => assumption); k_whole; intro h' R' U'; (try dsimp only at R' U' ⊢)))) | ((fail_if_success (fail_if_success (with_reducible show wpAny _ _ (call (Value.builtin "len") (_ :: _)) _ _ _))); (k_here; (with_reducible show wpAny _ _ (call (Value.builtin "len") [Value.ref _]) _ _ _); k_dflt (refine' kun_lenL (News.isList ?zqa ?zqa2) ?zqb ?zqc ?_; (case zqa => k_asm); (case zqa2 => first | exact .head _ | exact .tail _ (.head _) | exact .tail _ (.tail _ (.head _)) | exact .tail _ (.tail _ (.tail _ (.head _))) | exact .tail _ (.tail _ (.tail _ (.tail _ (.head _))))); (case zqb => assumption); (case zqc => first | exact q9 ‹_› | omega); k_whole))) | ((with_reducible show wpAny _ _ (setAttr (Value.ref _) (Str.ofString "spot") _) _ _ _); k_here; k_dflt (refine' setW_spot ?zk1 ?zk2 ?zk3 ?zk4 ?zk5 ?zk6 ?zk7 ?zk8 ?zk9 ?zk12 ?_; (case zk1 => k_asm); (case zk2 => k_asm); (case zk3 => k_asm); (case zk4 => k_inst); (case zk5 => exact rfl); (case zk6 => k_is); (case zk7 => k_is); (case zk8 => k_is); (case zk9 => k_is); (case zk12 => k_upd); k_whole; intro h' F' N'; (try k_sweep))) | (k_unfold; (try dsimp only)) | (k_end; wrow_close) | walk1 | (dsimp only; first | walk1 | (fail_if_success (fail_if_success (with_reducible show wpAny _ _ (call (Value.builtin "len") (_ :: _)) _ _ _))) | (fail_if_success (fail_if_success (with_reducible show wpAny _ _ (call (Value.ref _) (_ :: _)) _ _ _))) | (fail_if_success (fail_if_success (with_reducible show wpAny _ _ (leaving _ (Value.ref _)) _ _ _)))) | (leave1; walk_say "STEP leave1"; try dsimp only) | fail "no step"))
  · rename (RaisedD _ _ _ _ _ _ _ _) => hS
    rename (Heap.UpToSlots _ _) => hU
    rename (CodeD _ _) => hcd
    rename (valF _ _ = none) => hvf
    exact hret.2 _ (.inr ⟨d, hd, hvf, rfl⟩) _ _ _ _ _ _ hcd (by k_asm) hU hS
  · rename ((k == Str.ofString "text") = true) => hkt
    rename (News h₀ _ _ _) => hN
    exact hret.1 d _ hd (valF_text hkt) _ _ _ _ _ (.inl ⟨_, _, rfl, rfl⟩) WD.ent (by k_asm) hN
  · rename (valF _ _ = some _) => hvf
    rename (News h₀ _ _ _) => hN
    exact hret.1 d _ hd hvf _ _ _ _ _ (.inr ⟨_, _, rfl, rfl⟩) WD.ent (by k_asm) hN
end Mine
end
section
local macro_rules | `(tactic| walk_at "no such key 0") => `(tactic| skip)
theorem Mine.resetC23 : True ∧ True := by
  first | (walk1; done) | exact ⟨trivial, trivial⟩
end
section
namespace Mine
theorem startC23 : True := by
  w_top off
  trivial
end Mine
open PySem PySem.W PyProof.Rows PySem.Calls PyProof.V PySem.Spec
namespace Mine
noncomputable def restF (ds : List (Int × Str)) (g : Int) : Nat := (ds.takeWhile fun d => decide (d.1 < g)).length
theorem restF_step {ds : List (Int × Str)} {g : Int} {i R : Nat} {d : Int × Str} (hd : ds[i]? = some d) (hlt : d.1 < g) (hr : i + restF (ds.drop i) g = R) : i + 1 + restF (ds.drop (i + 1)) g = R := by
  obtain ⟨hl, rfl⟩ := List.getElem?_eq_some_iff.mp hd
  rw [List.drop_eq_getElem_cons hl] at hr
  unfold restF at *
  rw [List.takeWhile_cons_of_pos (by simpa using hlt), List.length_cons] at hr
  omega
theorem restF_stop {ds : List (Int × Str)} {g : Int} {i R : Nat} {d : Int × Str} (hd : ds[i]? = some d) (hlt : ¬ d.1 < g) (hr : i + restF (ds.drop i) g = R) : i = R := by
  obtain ⟨hl, rfl⟩ := List.getElem?_eq_some_iff.mp hd
  rw [List.drop_eq_getElem_cons hl] at hr
  unfold restF at *
  rw [List.takeWhile_cons_of_neg (by simpa using hlt)] at hr
  simpa using hr
theorem restF_end {ds : List (Int × Str)} {g : Int} {i R : Nat} (hd : ds.length ≤ i) (hr : i + restF (ds.drop i) g = R) : i = R := by
  rw [List.drop_eq_nil_of_le hd] at hr
  simpa [restF] using hr
structure RsSt where
  i : Nat
  z : Int
  t : Tok
  es : List DictEntry
local macro_rules | `(tactic| k_all) => `(tactic| first | assumption | exact List.forall_mem_cons.mpr ⟨by k_ne, by assumption⟩)
local macro_rules | `(tactic| walk_at "exec Raise some none") => `(tactic| (k_here; refine xr_raise (C := 41) (bm := excBm) rfl rfl ?_))
local macro_rules | `(tactic| walk_at "subscriptTail Attribute Attribute ref int") => `(tactic| (refine Stop.out ?_))
local macro_rules | `(tactic| walk_at "subscriptTail Name Attribute ref int") => `(tactic| (refine Stop.out ?_))
local macro_rules | `(tactic| walk_at "compareOp NotIn int ref") => `(tactic| (refine Stop.out ?_))
local macro_rules | `(tactic| walk_at "exec While BoolOp") => `(tactic| (refine Stop.out ?_))
local macro_rules | `(tactic| walk_at "WlPost") => `(tactic| dsimp only [WlPost])

set_option maxHeartbeats 4000000 in
theorem restore_c (w : World) (x dx da la : Addr) (ov rv iv sv : Value) (dvs : List Value) (ds : List (Int × Str)) (dn : Nat) (hdl : ds.length ≤ 10) (es : List DictEntry) (hes : WD w ov rv iv (.ref da) sv es)
    (lvs : List Value) (ln : Nat) (hlv : IntsAre lvs [10, 20, 30]) (g : Option Int) (gv : Value) (hgv : (g = none ∧ gv = .none) ∨ ∃ n t, g = some n ∧ gv = .int n t)
    (news : List (Addr × Obj)) (hti : TupsIn news dvs ds) (hd1 : @Ne Nat x dx) (hd2 : @Ne Nat da x) (hd3 : @Ne Nat da dx) (hd7 : @Ne Nat la x) (hd8 : @Ne Nat la dx) (hd5 : ∀ p ∈ news, p.1 ≠ x) (hd6 : ∀ p ∈ news, p.1 ≠ dx) :
    Ctr2 w 148 8 512 [.ref x, gv, .ref la] ((x, instObj 166 dx) :: (dx, dictOf es 28) :: (da, W.listOf dvs.toArray dn) :: (la, W.listOf lvs.toArray ln) :: news) (fun envs base L h₀ m s Q E =>
      (∀ R, ((g = none ∧ R = 0) ∨ ∃ n, g = some n ∧ n ∈ ([10, 20, 30] : List Int) ∧ R = restF ds n) → ∀ (h2 : Heap) (tk2 : Nat) (es2 : List DictEntry) (t2 : Tok), WD w ov rv iv (.ref da) (.int (R : Int) t2) es2 → Fr h₀ L h2 m → News h₀ L h2 ((x, instObj 166 dx) :: (dx, dictOf es2 28) :: (da, W.listOf dvs.toArray dn) :: (la, W.listOf lvs.toArray ln) :: news) → Q .none { s with heap := h2, toks := tk2 }) ∧
      ((∃ n, g = some n ∧ n ∉ ([10, 20, 30] : List Int)) → ∀ (h2 g2 : Heap) (tk2 : Nat) (e de : Addr) (od : Obj), CodeD (Str.ofString "UL") od → Fr h₀ L g2 m → g2.UpToSlots h2 → RaisedD base g2 envs e (.ref 41) de ((de, od) :: ((x, instObj 166 dx) :: (dx, dictOf es 28) :: (da, W.listOf dvs.toArray dn) :: (la, W.listOf lvs.toArray ln) :: news)) h2 → E (.ref e) { s with heap := h2, toks := tk2 })) := by
  obtain ⟨T0, U0, rfl⟩ := hes.ex
  (try dsimp only at *)
  unfold Ctr2
  k_fill
  intro p loose mean mg mb dp un gd cn cs a ccd cl outer A₀ base h₀ L m s Q E B F X N T hk hdp hu hret
  refine wpAny_call ?_
  k_dflt ktr_enter
  refine (let aw : PySem.Around := _; let ev : PySem.Env := _; let qe : PySem.Flow → PySem.Shared → Prop := _; let ee : PySem.Value → PySem.Shared → Prop := _; (?_ : PySem.wpAny _ aw (PySem.execs _ ev) qe ee _))
  have hsz : (dvs.toArray.size : Int) = ((ds.length : Nat) : Int) := by rw [List.size_toArray, hti.1]
  rcases hgv with ⟨rfl, rfl⟩ | ⟨n, tn, rfl, rfl⟩
  · (repeat' (first | ((fail_if_success (fail_if_success (with_reducible show wpAny _ _ (call (Value.ref _) (_ :: _)) _ _ _))); (k_here; k_dflt (first | (refine' basic2_c _ _ _ _ ?zqhc0 _ _ _ _ _ _ _ _ _ _ _ _ _ _ _ _ _ _ _ _ _ _ _ ?zqk1 ?zqk2 ?zqk3 ?zqk4 ?zqk5 ?zqkK ?zqkd ?zqku ?_; (case zqk1 => k_asm); (case zqk2 => k_asm); (case zqk3 => k_asm); (case zqk4 => k_asm); (case zqk5 => k_asm); (case zqkK => first | exact rfl | assumption); (case zqhc0 => decide); (case zqkd => ktr_room); (case zqku => ktr_units); (intro e9 de9 tp9 oe9 od9 h9 tk9 hcls9 hdi9 hdat9 hcd9 hne9 hde9 F9 N9; refine' raising_mk ?zqrX ?zqrF ?zqrN ?zqrc ?zqrd ?_; (case zqrX => assumption); (case zqrF => exact F9); (case zqrN => exact N9); (case zqrc => exact hcls9); (case zqrd => exact hdat9); (try dsimp only))) | (refine' basic_c _ _ _ ?zqhc0 _ _ _ _ _ _ _ _ _ _ _ _ _ _ _ _ _ _ _ _ _ _ _ ?zqk1 ?zqk2 ?zqk3 ?zqk4 ?zqk5 ?zqkK ?zqkd ?zqku ?_; (case zqk1 => k_asm); (case zqk2 => k_asm); (case zqk3 => k_asm); (case zqk4 => k_asm); (case zqk5 => k_asm); (case zqkK => first | exact rfl | assumption); (case zqhc0 => decide); (case zqkd => ktr_room); (case zqku => ktr_units); (intro e9 de9 tp9 oe9 od9 h9 tk9 hcls9 hdi9 hdat9 hcd9 hne9 hde9 F9 N9; refine' raising_mk ?zqrX ?zqrF ?zqrN ?zqrc ?zqrd ?_; (case zqrX => assumption); (case zqrF => exact F9); (case zqrN => exact N9); (case zqrc => exact hcls9); (case zqrd => exact hdat9); (try dsimp only)))))) | ((fail_if_success (fail_if_success (with_reducible show wpAny _ _ (leaving _ (Value.ref _)) _ _ _))); (k_here; (refine' leave_exc ?zqk1 ?zqk2 ?zqk3 ?zqk4 ?zqk5 ?zqk6 ?zqk7 ?_; (case zqk1 => assumption); (case zqk2 => k_asm); (case zqk3 => assumption); (case zqk4 => exact List.forall_mem_cons.mpr ⟨by assumption, by assumption⟩); (case zqk5 => assumption); (case zqk6 => assumption); (case zqk7 => assumption); k_whole; intro h' R' U'; (try dsimp only at R' U' ⊢)))) | ((fail_if_success (fail_if_success (with_reducible show wpAny _ _ (call (Value.builtin "len") (_ :: _)) _ _ _))); (k_here; (with_reducible show wpAny _ _ (call (Value.builtin "len") [Value.ref _]) _ _ _); k_dflt (refine' kun_lenL (News.isList ?zqa ?zqa2) ?zqb ?zqc ?_; (case zqa => k_asm); (case zqa2 => first | exact .head _ | exact .tail _ (.head _) | exact .tail _ (.tail _ (.head _)) | exact .tail _ (.tail _ (.tail _ (.head _))) | exact .tail _ (.tail _ (.tail _ (.tail _ (.head _))))); (case zqb => assumption); (case zqc => first | exact q9 ‹_› | omega); k_whole))) | ((with_reducible show wpAny _ _ (setAttr (Value.ref _) (Str.ofString "spot") _) _ _ _); k_here; k_dflt (refine' setW_spot ?zk1 ?zk2 ?zk3 ?zk4 ?zk5 ?zk6 ?zk7 ?zk8 ?zk9 ?zk12 ?_; (case zk1 => k_asm); (case zk2 => k_asm); (case zk3 => k_asm); (case zk4 => k_inst); (case zk5 => exact rfl); (case zk6 => k_is); (case zk7 => k_is); (case zk8 => k_is); (case zk9 => k_is); (case zk12 => k_upd); k_whole; intro h' F' N'; (try k_sweep))) | (k_unfold; (try dsimp only)) | (k_end; wrow_close) | walk1 | (dsimp only; first | walk1 | (fail_if_success (fail_if_success (with_reducible show wpAny _ _ (call (Value.builtin "len") (_ :: _)) _ _ _))) | (fail_if_success (fail_if_success (with_reducible show wpAny _ _ (call (Value.ref _) (_ :: _)) _ _ _))) | (fail_if_success (fail_if_success (with_reducible show wpAny _ _ (leaving _ (Value.ref _)) _ _ _)))) | (leave1; walk_say "STEP leave1"; try dsimp only) | fail "no step"))
    refine Stop.mk ?_
    (rename Fr _ _ _ _ => lF)
    (rename News _ _ _ _ => lN)
    refine wl (σ := RsSt) (fun c => ((x, instObj 166 dx) :: (dx, dictOf c.es 28) :: (da, W.listOf dvs.toArray dn) :: (la, W.listOf lvs.toArray ln) :: news)) (fun c => [(Str.ofString "world", .ref x), (Str.ofString "number", .none), (Str.ofString "lines", .ref la)]) (fun c => WD w ov rv iv (.ref da) (.int 0 c.t) c.es) (fun c => 0) lF ⟨⟨0, 0, _, _⟩, lN, ⟨rfl, rfl, rfl, trivial⟩, WD.ent⟩ ?turn ?hE
    case hE => passes_own
    case turn =>
      clear lF lN
      intro c u h tk hP F1 N1
      obtain ⟨i1, z1, t1, es1⟩ := c
      dsimp only at hP F1 N1
      obtain ⟨T1, U1, rfl⟩ := WD.ex hP
      (try dsimp only at F1 N1)
      (repeat' (first | ((fail_if_success (fail_if_success (with_reducible show wpAny _ _ (call (Value.ref _) (_ :: _)) _ _ _))); (k_here; k_dflt (first | (refine' basic2_c _ _ _ _ ?zqhc0 _ _ _ _ _ _ _ _ _ _ _ _ _ _ _ _ _ _ _ _ _ _ _ ?zqk1 ?zqk2 ?zqk3 ?zqk4 ?zqk5 ?zqkK ?zqkd ?zqku ?_; (case zqk1 => k_asm); (case zqk2 => k_asm); (case zqk3 => k_asm); (case zqk4 => k_asm); (case zqk5 => k_asm); (case zqkK => first | exact rfl | assumption); (case zqhc0 => decide); (case zqkd => ktr_room); (case zqku => ktr_units); (intro e9 de9 tp9 oe9 od9 h9 tk9 hcls9 hdi9 hdat9 hcd9 hne9 hde9 F9 N9; refine' raising_mk ?zqrX ?zqrF ?zqrN ?zqrc ?zqrd ?_; (case zqrX => assumption); (case zqrF => exact F9); (case zqrN => exact N9); (case zqrc => exact hcls9); (case zqrd => exact hdat9); (try dsimp only))) | (refine' basic_c _ _ _ ?zqhc0 _ _ _ _ _ _ _ _ _ _ _ _ _ _ _ _ _ _ _ _ _ _ _ ?zqk1 ?zqk2 ?zqk3 ?zqk4 ?zqk5 ?zqkK ?zqkd ?zqku ?_; (case zqk1 => k_asm); (case zqk2 => k_asm); (case zqk3 => k_asm); (case zqk4 => k_asm); (case zqk5 => k_asm); (case zqkK => first | exact rfl | assumption); (case zqhc0 => decide); (case zqkd => ktr_room); (case zqku => ktr_units); (intro e9 de9 tp9 oe9 od9 h9 tk9 hcls9 hdi9 hdat9 hcd9 hne9 hde9 F9 N9; refine' raising_mk ?zqrX ?zqrF ?zqrN ?zqrc ?zqrd ?_; (case zqrX => assumption); (case zqrF => exact F9); (case zqrN => exact N9); (case zqrc => exact hcls9); (case zqrd => exact hdat9); (try dsimp only)))))) | ((fail_if_success (fail_if_success (with_reducible show wpAny _ _ (leaving _ (Value.ref _)) _ _ _))); (k_here; (refine' leave_exc ?zqk1 ?zqk2 ?zqk3 ?zqk4 ?zqk5 ?zqk6 ?zqk7 ?_; (case zqk1 => assumption); (case zqk2 => k_asm); (case zqk3 => assumption); (case zqk4 => exact List.forall_mem_cons.mpr ⟨by assumption, by assumption⟩); (case zqk5 => assumption); (case zqk6 => assumption); (case zqk7 => assumption); k_whole; intro h' R' U'; (try dsimp only at R' U' ⊢)))) | ((fail_if_success (fail_if_success (with_reducible show wpAny _ _ (call (Value.builtin "len") (_ :: _)) _ _ _))); (k_here; (with_reducible show wpAny _ _ (call (Value.builtin "len") [Value.ref _]) _ _ _); k_dflt (refine' kun_lenL (News.isList ?zqa ?zqa2) ?zqb ?zqc ?_; (case zqa => k_asm); (case zqa2 => first | exact .head _ | exact .tail _ (.head _) | exact .tail _ (.tail _ (.head _)) | exact .tail _ (.tail _ (.tail _ (.head _))) | exact .tail _ (.tail _ (.tail _ (.tail _ (.head _))))); (case zqb => assumption); (case zqc => first | exact q9 ‹_› | omega); k_whole))) | ((with_reducible show wpAny _ _ (setAttr (Value.ref _) (Str.ofString "spot") _) _ _ _); k_here; k_dflt (refine' setW_spot ?zk1 ?zk2 ?zk3 ?zk4 ?zk5 ?zk6 ?zk7 ?zk8 ?zk9 ?zk12 ?_; (case zk1 => k_asm); (case zk2 => k_asm); (case zk3 => k_asm); (case zk4 => k_inst); (case zk5 => exact rfl); (case zk6 => k_is); (case zk7 => k_is); (case zk8 => k_is); (case zk9 => k_is); (case zk12 => k_upd); k_whole; intro h' F' N'; (try k_sweep))) | (k_unfold; (try dsimp only)) | (k_end; wrow_close) | walk1 | (dsimp only; first | walk1 | (fail_if_success (fail_if_success (with_reducible show wpAny _ _ (call (Value.builtin "len") (_ :: _)) _ _ _))) | (fail_if_success (fail_if_success (with_reducible show wpAny _ _ (call (Value.ref _) (_ :: _)) _ _ _))) | (fail_if_success (fail_if_success (with_reducible show wpAny _ _ (leaving _ (Value.ref _)) _ _ _)))) | (leave1; walk_say "STEP leave1"; try dsimp only) | fail "no step"))
      rename (News h₀ _ _ _) => hN
      exact hret.1 0 (.inl ⟨rfl, rfl⟩) _ _ _ _ WD.ent (by k_asm) hN
  · (repeat' (first | ((fail_if_success (fail_if_success (with_reducible show wpAny _ _ (call (Value.ref _) (_ :: _)) _ _ _))); (k_here; k_dflt (first | (refine' basic2_c _ _ _ _ ?zqhc0 _ _ _ _ _ _ _ _ _ _ _ _ _ _ _ _ _ _ _ _ _ _ _ ?zqk1 ?zqk2 ?zqk3 ?zqk4 ?zqk5 ?zqkK ?zqkd ?zqku ?_; (case zqk1 => k_asm); (case zqk2 => k_asm); (case zqk3 => k_asm); (case zqk4 => k_asm); (case zqk5 => k_asm); (case zqkK => first | exact rfl | assumption); (case zqhc0 => decide); (case zqkd => ktr_room); (case zqku => ktr_units); (intro e9 de9 tp9 oe9 od9 h9 tk9 hcls9 hdi9 hdat9 hcd9 hne9 hde9 F9 N9; refine' raising_mk ?zqrX ?zqrF ?zqrN ?zqrc ?zqrd ?_; (case zqrX => assumption); (case zqrF => exact F9); (case zqrN => exact N9); (case zqrc => exact hcls9); (case zqrd => exact hdat9); (try dsimp only))) | (refine' basic_c _ _ _ ?zqhc0 _ _ _ _ _ _ _ _ _ _ _ _ _ _ _ _ _ _ _ _ _ _ _ ?zqk1 ?zqk2 ?zqk3 ?zqk4 ?zqk5 ?zqkK ?zqkd ?zqku ?_; (case zqk1 => k_asm); (case zqk2 => k_asm); (case zqk3 => k_asm); (case zqk4 => k_asm); (case zqk5 => k_asm); (case zqkK => first | exact rfl | assumption); (case zqhc0 => decide); (case zqkd => ktr_room); (case zqku => ktr_units); (intro e9 de9 tp9 oe9 od9 h9 tk9 hcls9 hdi9 hdat9 hcd9 hne9 hde9 F9 N9; refine' raising_mk ?zqrX ?zqrF ?zqrN ?zqrc ?zqrd ?_; (case zqrX => assumption); (case zqrF => exact F9); (case zqrN => exact N9); (case zqrc => exact hcls9); (case zqrd => exact hdat9); (try dsimp only)))))) | ((fail_if_success (fail_if_success (with_reducible show wpAny _ _ (leaving _ (Value.ref _)) _ _ _))); (k_here; (refine' leave_exc ?zqk1 ?zqk2 ?zqk3 ?zqk4 ?zqk5 ?zqk6 ?zqk7 ?_; (case zqk1 => assumption); (case zqk2 => k_asm); (case zqk3 => assumption); (case zqk4 => exact List.forall_mem_cons.mpr ⟨by assumption, by assumption⟩); (case zqk5 => assumption); (case zqk6 => assumption); (case zqk7 => assumption); k_whole; intro h' R' U'; (try dsimp only at R' U' ⊢)))) | ((fail_if_success (fail_if_success (with_reducible show wpAny _ _ (call (Value.builtin "len") (_ :: _)) _ _ _))); (k_here; (with_reducible show wpAny _ _ (call (Value.builtin "len") [Value.ref _]) _ _ _); k_dflt (refine' kun_lenL (News.isList ?zqa ?zqa2) ?zqb ?zqc ?_; (case zqa => k_asm); (case zqa2 => first | exact .head _ | exact .tail _ (.head _) | exact .tail _ (.tail _ (.head _)) | exact .tail _ (.tail _ (.tail _ (.head _))) | exact .tail _ (.tail _ (.tail _ (.tail _ (.head _))))); (case zqb => assumption); (case zqc => first | exact q9 ‹_› | omega); k_whole))) | ((with_reducible show wpAny _ _ (setAttr (Value.ref _) (Str.ofString "spot") _) _ _ _); k_here; k_dflt (refine' setW_spot ?zk1 ?zk2 ?zk3 ?zk4 ?zk5 ?zk6 ?zk7 ?zk8 ?zk9 ?zk12 ?_; (case zk1 => k_asm); (case zk2 => k_asm); (case zk3 => k_asm); (case zk4 => k_inst); (case zk5 => exact rfl); (case zk6 => k_is); (case zk7 => k_is); (case zk8 => k_is); (case zk9 => k_is); (case zk12 => k_upd); k_whole; intro h' F' N'; (try k_sweep))) | (k_unfold; (try dsimp only)) | (k_end; wrow_close) | walk1 | (dsimp only; first | walk1 | (fail_if_success (fail_if_success (with_reducible show wpAny _ _ (call (Value.builtin "len") (_ :: _)) _ _ _))) | (fail_if_success (fail_if_success (with_reducible show wpAny _ _ (call (Value.ref _) (_ :: _)) _ _ _))) | (fail_if_success (fail_if_success (with_reducible show wpAny _ _ (leaving _ (Value.ref _)) _ _ _)))) | (leave1; walk_say "STEP leave1"; try dsimp only) | fail "no step"))
    refine Stop.mk ?_
    (rename News _ _ _ _ => lN)
    refine' notin_list_ints (ns := [10, 20, 30]) ?l ?v ?_
    case l => exact News.isList lN (.tail _ (.tail _ (.tail _ (.head _))))
    case v => exact hlv
    by_cases hin : n ∈ ([10, 20, 30] : List Int)
    · have hb : (!(([10, 20, 30] : List Int).any (· == n))) = false := by
        rw [Bool.not_eq_false', List.any_eq_true]
        exact ⟨n, hin, beq_self_eq_true n⟩
      rw [hb]
      (repeat' (first | ((fail_if_success (fail_if_success (with_reducible show wpAny _ _ (call (Value.ref _) (_ :: _)) _ _ _))); (k_here; k_dflt (first | (refine' basic2_c _ _ _ _ ?zqhc0 _ _ _ _ _ _ _ _ _ _ _ _ _ _ _ _ _ _ _ _ _ _ _ ?zqk1 ?zqk2 ?zqk3 ?zqk4 ?zqk5 ?zqkK ?zqkd ?zqku ?_; (case zqk1 => k_asm); (case zqk2 => k_asm); (case zqk3 => k_asm); (case zqk4 => k_asm); (case zqk5 => k_asm); (case zqkK => first | exact rfl | assumption); (case zqhc0 => decide); (case zqkd => ktr_room); (case zqku => ktr_units); (intro e9 de9 tp9 oe9 od9 h9 tk9 hcls9 hdi9 hdat9 hcd9 hne9 hde9 F9 N9; refine' raising_mk ?zqrX ?zqrF ?zqrN ?zqrc ?zqrd ?_; (case zqrX => assumption); (case zqrF => exact F9); (case zqrN => exact N9); (case zqrc => exact hcls9); (case zqrd => exact hdat9); (try dsimp only))) | (refine' basic_c _ _ _ ?zqhc0 _ _ _ _ _ _ _ _ _ _ _ _ _ _ _ _ _ _ _ _ _ _ _ ?zqk1 ?zqk2 ?zqk3 ?zqk4 ?zqk5 ?zqkK ?zqkd ?zqku ?_; (case zqk1 => k_asm); (case zqk2 => k_asm); (case zqk3 => k_asm); (case zqk4 => k_asm); (case zqk5 => k_asm); (case zqkK => first | exact rfl | assumption); (case zqhc0 => decide); (case zqkd => ktr_room); (case zqku => ktr_units); (intro e9 de9 tp9 oe9 od9 h9 tk9 hcls9 hdi9 hdat9 hcd9 hne9 hde9 F9 N9; refine' raising_mk ?zqrX ?zqrF ?zqrN ?zqrc ?zqrd ?_; (case zqrX => assumption); (case zqrF => exact F9); (case zqrN => exact N9); (case zqrc => exact hcls9); (case zqrd => exact hdat9); (try dsimp only)))))) | ((fail_if_success (fail_if_success (with_reducible show wpAny _ _ (leaving _ (Value.ref _)) _ _ _))); (k_here; (refine' leave_exc ?zqk1 ?zqk2 ?zqk3 ?zqk4 ?zqk5 ?zqk6 ?zqk7 ?_; (case zqk1 => assumption); (case zqk2 => k_asm); (case zqk3 => assumption); (case zqk4 => exact List.forall_mem_cons.mpr ⟨by assumption, by assumption⟩); (case zqk5 => assumption); (case zqk6 => assumption); (case zqk7 => assumption); k_whole; intro h' R' U'; (try dsimp only at R' U' ⊢)))) | ((fail_if_success (fail_if_success (with_reducible show wpAny _ _ (call (Value.builtin "len") (_ :: _)) _ _ _))); (k_here; (with_reducible show wpAny _ _ (call (Value.builtin "len") [Value.ref _]) _ _ _); k_dflt (refine' kun_lenL (News.isList ?zqa ?zqa2) ?zqb ?zqc ?_; (case zqa => k_asm); (case zqa2 => first | exact .head _ | exact .tail _ (.head _) | exact .tail _ (.tail _ (.head _)) | exact .tail _ (.tail _ (.tail _ (.head _))) | exact .tail _ (.tail _ (.tail _ (.tail _ (.head _))))); (case zqb => assumption); (case zqc => first | exact q9 ‹_› | omega); k_whole))) | ((with_reducible show wpAny _ _ (setAttr (Value.ref _) (Str.ofString "spot") _) _ _ _); k_here; k_dflt (refine' setW_spot ?zk1 ?zk2 ?zk3 ?zk4 ?zk5 ?zk6 ?zk7 ?zk8 ?zk9 ?zk12 ?_; (case zk1 => k_asm); (case zk2 => k_asm); (case zk3 => k_asm); (case zk4 => k_inst); (case zk5 => exact rfl); (case zk6 => k_is); (case zk7 => k_is); (case zk8 => k_is); (case zk9 => k_is); (case zk12 => k_upd); k_whole; intro h' F' N'; (try k_sweep))) | (k_unfold; (try dsimp only)) | (k_end; wrow_close) | walk1 | (dsimp only; first | walk1 | (fail_if_success (fail_if_success (with_reducible show wpAny _ _ (call (Value.builtin "len") (_ :: _)) _ _ _))) | (fail_if_success (fail_if_success (with_reducible show wpAny _ _ (call (Value.ref _) (_ :: _)) _ _ _))) | (fail_if_success (fail_if_success (with_reducible show wpAny _ _ (leaving _ (Value.ref _)) _ _ _)))) | (leave1; walk_say "STEP leave1"; try dsimp only) | fail "no step"))
      refine Stop.mk ?_
      (rename Fr _ _ _ _ => lF)
      (rename News _ _ _ _ => lN)
      refine wl (σ := RsSt) (fun c => ((x, instObj 166 dx) :: (dx, dictOf c.es 28) :: (da, W.listOf dvs.toArray dn) :: (la, W.listOf lvs.toArray ln) :: news)) (fun c => [(Str.ofString "world", .ref x), (Str.ofString "number", .int n tn), (Str.ofString "lines", .ref la)]) (fun c => WD w ov rv iv (.ref da) (.int c.z c.t) c.es ∧ c.z = (c.i : Int) ∧ c.i ≤ ds.length ∧ c.i + restF (ds.drop c.i) n = restF ds n) (fun c => ds.length - c.i) lF ⟨⟨0, 0, _, _⟩, lN, ⟨rfl, rfl, rfl, trivial⟩, WD.ent, rfl, Nat.zero_le _, by simp⟩ ?turn2 ?hE2
      case hE2 => passes_own
      case turn2 =>
        clear lF lN
        intro c u h tk hP F1 N1
        obtain ⟨i1, z1, t1, es1⟩ := c
        obtain ⟨hes1, hz1, hle1, hr1⟩ := hP
        dsimp only at hes1 hz1 hle1 hr1 F1 N1
        subst hz1
        obtain ⟨T1, U1, rfl⟩ := hes1.ex
        (try dsimp only at F1 N1)
        (repeat' (first | ((fail_if_success (fail_if_success (with_reducible show wpAny _ _ (call (Value.ref _) (_ :: _)) _ _ _))); (k_here; k_dflt (first | (refine' basic2_c _ _ _ _ ?zqhc0 _ _ _ _ _ _ _ _ _ _ _ _ _ _ _ _ _ _ _ _ _ _ _ ?zqk1 ?zqk2 ?zqk3 ?zqk4 ?zqk5 ?zqkK ?zqkd ?zqku ?_; (case zqk1 => k_asm); (case zqk2 => k_asm); (case zqk3 => k_asm); (case zqk4 => k_asm); (case zqk5 => k_asm); (case zqkK => first | exact rfl | assumption); (case zqhc0 => decide); (case zqkd => ktr_room); (case zqku => ktr_units); (intro e9 de9 tp9 oe9 od9 h9 tk9 hcls9 hdi9 hdat9 hcd9 hne9 hde9 F9 N9; refine' raising_mk ?zqrX ?zqrF ?zqrN ?zqrc ?zqrd ?_; (case zqrX => assumption); (case zqrF => exact F9); (case zqrN => exact N9); (case zqrc => exact hcls9); (case zqrd => exact hdat9); (try dsimp only))) | (refine' basic_c _ _ _ ?zqhc0 _ _ _ _ _ _ _ _ _ _ _ _ _ _ _ _ _ _ _ _ _ _ _ ?zqk1 ?zqk2 ?zqk3 ?zqk4 ?zqk5 ?zqkK ?zqkd ?zqku ?_; (case zqk1 => k_asm); (case zqk2 => k_asm); (case zqk3 => k_asm); (case zqk4 => k_asm); (case zqk5 => k_asm); (case zqkK => first | exact rfl | assumption); (case zqhc0 => decide); (case zqkd => ktr_room); (case zqku => ktr_units); (intro e9 de9 tp9 oe9 od9 h9 tk9 hcls9 hdi9 hdat9 hcd9 hne9 hde9 F9 N9; refine' raising_mk ?zqrX ?zqrF ?zqrN ?zqrc ?zqrd ?_; (case zqrX => assumption); (case zqrF => exact F9); (case zqrN => exact N9); (case zqrc => exact hcls9); (case zqrd => exact hdat9); (try dsimp only)))))) | ((fail_if_success (fail_if_success (with_reducible show wpAny _ _ (leaving _ (Value.ref _)) _ _ _))); (k_here; (refine' leave_exc ?zqk1 ?zqk2 ?zqk3 ?zqk4 ?zqk5 ?zqk6 ?zqk7 ?_; (case zqk1 => assumption); (case zqk2 => k_asm); (case zqk3 => assumption); (case zqk4 => exact List.forall_mem_cons.mpr ⟨by assumption, by assumption⟩); (case zqk5 => assumption); (case zqk6 => assumption); (case zqk7 => assumption); k_whole; intro h' R' U'; (try dsimp only at R' U' ⊢)))) | ((fail_if_success (fail_if_success (with_reducible show wpAny _ _ (call (Value.builtin "len") (_ :: _)) _ _ _))); (k_here; (with_reducible show wpAny _ _ (call (Value.builtin "len") [Value.ref _]) _ _ _); k_dflt (refine' kun_lenL (News.isList ?zqa ?zqa2) ?zqb ?zqc ?_; (case zqa => k_asm); (case zqa2 => first | exact .head _ | exact .tail _ (.head _) | exact .tail _ (.tail _ (.head _)) | exact .tail _ (.tail _ (.tail _ (.head _))) | exact .tail _ (.tail _ (.tail _ (.tail _ (.head _))))); (case zqb => assumption); (case zqc => first | exact q9 ‹_› | omega); k_whole))) | ((with_reducible show wpAny _ _ (setAttr (Value.ref _) (Str.ofString "spot") _) _ _ _); k_here; k_dflt (refine' setW_spot ?zk1 ?zk2 ?zk3 ?zk4 ?zk5 ?zk6 ?zk7 ?zk8 ?zk9 ?zk12 ?_; (case zk1 => k_asm); (case zk2 => k_asm); (case zk3 => k_asm); (case zk4 => k_inst); (case zk5 => exact rfl); (case zk6 => k_is); (case zk7 => k_is); (case zk8 => k_is); (case zk9 => k_is); (case zk12 => k_upd); k_whole; intro h' F' N'; (try k_sweep))) | (k_unfold; (try dsimp only)) | (k_end; wrow_close) | walk1 | (dsimp only; first | walk1 | (fail_if_success (fail_if_success (with_reducible show wpAny _ _ (call (Value.builtin "len") (_ :: _)) _ _ _))) | (fail_if_success (fail_if_success (with_reducible show wpAny _ _ (call (Value.ref _) (_ :: _)) _ _ _))) | (fail_if_success (fail_if_success (with_reducible show wpAny _ _ (leaving _ (Value.ref _)) _ _ _)))) | (leave1; walk_say "STEP leave1"; try dsimp only) | fail "no step"))
        · refine Stop.mk ?_
          rename (News _ _ _ _) => lN
          have hlt1 : i1 < ds.length := Int.ofNat_lt.mp ‹_›
          obtain ⟨d, hd⟩ : ∃ d, ds[i1]? = some d := ⟨_, List.getElem?_eq_getElem hlt1⟩
          obtain ⟨TT, tt1, tt2, hTv, hTm⟩ := hti.2 i1 d hd
          refine' item_gen (News.isList lN (.tail _ (.tail _ (.head _)))) ?i0 ?i1 ?i2 ?_
          case i0 => exact Int.natCast_nonneg _
          case i1 => exact q8 hlt1 hdl
          case i2 => exact hTv
          have hTm2 := News.isTup lN (.tail _ (.tail _ (.tail _ (.tail _ hTm))))
          (repeat' (first | ((fail_if_success (fail_if_success (with_reducible show wpAny _ _ (call (Value.ref _) (_ :: _)) _ _ _))); (k_here; k_dflt (first | (refine' basic2_c _ _ _ _ ?zqhc0 _ _ _ _ _ _ _ _ _ _ _ _ _ _ _ _ _ _ _ _ _ _ _ ?zqk1 ?zqk2 ?zqk3 ?zqk4 ?zqk5 ?zqkK ?zqkd ?zqku ?_; (case zqk1 => k_asm); (case zqk2 => k_asm); (case zqk3 => k_asm); (case zqk4 => k_asm); (case zqk5 => k_asm); (case zqkK => first | exact rfl | assumption); (case zqhc0 => decide); (case zqkd => ktr_room); (case zqku => ktr_units); (intro e9 de9 tp9 oe9 od9 h9 tk9 hcls9 hdi9 hdat9 hcd9 hne9 hde9 F9 N9; refine' raising_mk ?zqrX ?zqrF ?zqrN ?zqrc ?zqrd ?_; (case zqrX => assumption); (case zqrF => exact F9); (case zqrN => exact N9); (case zqrc => exact hcls9); (case zqrd => exact hdat9); (try dsimp only))) | (refine' basic_c _ _ _ ?zqhc0 _ _ _ _ _ _ _ _ _ _ _ _ _ _ _ _ _ _ _ _ _ _ _ ?zqk1 ?zqk2 ?zqk3 ?zqk4 ?zqk5 ?zqkK ?zqkd ?zqku ?_; (case zqk1 => k_asm); (case zqk2 => k_asm); (case zqk3 => k_asm); (case zqk4 => k_asm); (case zqk5 => k_asm); (case zqkK => first | exact rfl | assumption); (case zqhc0 => decide); (case zqkd => ktr_room); (case zqku => ktr_units); (intro e9 de9 tp9 oe9 od9 h9 tk9 hcls9 hdi9 hdat9 hcd9 hne9 hde9 F9 N9; refine' raising_mk ?zqrX ?zqrF ?zqrN ?zqrc ?zqrd ?_; (case zqrX => assumption); (case zqrF => exact F9); (case zqrN => exact N9); (case zqrc => exact hcls9); (case zqrd => exact hdat9); (try dsimp only)))))) | ((fail_if_success (fail_if_success (with_reducible show wpAny _ _ (leaving _ (Value.ref _)) _ _ _))); (k_here; (refine' leave_exc ?zqk1 ?zqk2 ?zqk3 ?zqk4 ?zqk5 ?zqk6 ?zqk7 ?_; (case zqk1 => assumption); (case zqk2 => k_asm); (case zqk3 => assumption); (case zqk4 => exact List.forall_mem_cons.mpr ⟨by assumption, by assumption⟩); (case zqk5 => assumption); (case zqk6 => assumption); (case zqk7 => assumption); k_whole; intro h' R' U'; (try dsimp only at R' U' ⊢)))) | ((fail_if_success (fail_if_success (with_reducible show wpAny _ _ (call (Value.builtin "len") (_ :: _)) _ _ _))); (k_here; (with_reducible show wpAny _ _ (call (Value.builtin "len") [Value.ref _]) _ _ _); k_dflt (refine' kun_lenL (News.isList ?zqa ?zqa2) ?zqb ?zqc ?_; (case zqa => k_asm); (case zqa2 => first | exact .head _ | exact .tail _ (.head _) | exact .tail _ (.tail _ (.head _)) | exact .tail _ (.tail _ (.tail _ (.head _))) | exact .tail _ (.tail _ (.tail _ (.tail _ (.head _))))); (case zqb => assumption); (case zqc => first | exact q9 ‹_› | omega); k_whole))) | ((with_reducible show wpAny _ _ (setAttr (Value.ref _) (Str.ofString "spot") _) _ _ _); k_here; k_dflt (refine' setW_spot ?zk1 ?zk2 ?zk3 ?zk4 ?zk5 ?zk6 ?zk7 ?zk8 ?zk9 ?zk12 ?_; (case zk1 => k_asm); (case zk2 => k_asm); (case zk3 => k_asm); (case zk4 => k_inst); (case zk5 => exact rfl); (case zk6 => k_is); (case zk7 => k_is); (case zk8 => k_is); (case zk9 => k_is); (case zk12 => k_upd); k_whole; intro h' F' N'; (try k_sweep))) | (k_unfold; (try dsimp only)) | (k_end; wrow_close) | walk1 | (dsimp only; first | walk1 | (fail_if_success (fail_if_success (with_reducible show wpAny _ _ (call (Value.builtin "len") (_ :: _)) _ _ _))) | (fail_if_success (fail_if_success (with_reducible show wpAny _ _ (call (Value.ref _) (_ :: _)) _ _ _))) | (fail_if_success (fail_if_success (with_reducible show wpAny _ _ (leaving _ (Value.ref _)) _ _ _)))) | (leave1; walk_say "STEP leave1"; try dsimp only) | fail "no step"))
          · rename (d.1 < n) => hlt
            rename (News _ _ _ _) => hN
            exact ex4 ⟨i1 + 1, _, _, _⟩ _ _ _ ⟨rfl, by k_asm, hN, ⟨rfl, rfl, rfl, trivial⟩, ⟨WD.ent, rfl, hlt1, restF_step hd hlt hr1⟩, Nat.sub_lt_sub_left hlt1 (Nat.lt_succ_self i1)⟩
          · rename (News h₀ _ _ _) => hN
            exact hret.1 i1 (.inr ⟨n, rfl, hin, restF_stop hd (by first | assumption | omega) hr1⟩) _ _ _ _ WD.ent (by k_asm) hN
        · rename (News h₀ _ _ _) => hN
          exact hret.1 i1 (.inr ⟨n, rfl, hin, restF_end (by first | exact Int.ofNat_le.mp (Int.not_lt.mp ‹_›) | omega) hr1⟩) _ _ _ _ WD.ent (by k_asm) hN
    · have hb : (!(([10, 20, 30] : List Int).any (· == n))) = true := by
        rw [Bool.not_eq_true', List.any_eq_false]
        exact fun a ha hq => hin (beq_iff_eq.mp hq ▸ ha)
      rw [hb]
      (repeat' (first | ((fail_if_success (fail_if_success (with_reducible show wpAny _ _ (call (Value.ref _) (_ :: _)) _ _ _))); (k_here; k_dflt (first | (refine' basic2_c _ _ _ _ ?zqhc0 _ _ _ _ _ _ _ _ _ _ _ _ _ _ _ _ _ _ _ _ _ _ _ ?zqk1 ?zqk2 ?zqk3 ?zqk4 ?zqk5 ?zqkK ?zqkd ?zqku ?_; (case zqk1 => k_asm); (case zqk2 => k_asm); (case zqk3 => k_asm); (case zqk4 => k_asm); (case zqk5 => k_asm); (case zqkK => first | exact rfl | assumption); (case zqhc0 => decide); (case zqkd => ktr_room); (case zqku => ktr_units); (intro e9 de9 tp9 oe9 od9 h9 tk9 hcls9 hdi9 hdat9 hcd9 hne9 hde9 F9 N9; refine' raising_mk ?zqrX ?zqrF ?zqrN ?zqrc ?zqrd ?_; (case zqrX => assumption); (case zqrF => exact F9); (case zqrN => exact N9); (case zqrc => exact hcls9); (case zqrd => exact hdat9); (try dsimp only))) | (refine' basic_c _ _ _ ?zqhc0 _ _ _ _ _ _ _ _ _ _ _ _ _ _ _ _ _ _ _ _ _ _ _ ?zqk1 ?zqk2 ?zqk3 ?zqk4 ?zqk5 ?zqkK ?zqkd ?zqku ?_; (case zqk1 => k_asm); (case zqk2 => k_asm); (case zqk3 => k_asm); (case zqk4 => k_asm); (case zqk5 => k_asm); (case zqkK => first | exact rfl | assumption); (case zqhc0 => decide); (case zqkd => ktr_room); (case zqku => ktr_units); (intro e9 de9 tp9 oe9 od9 h9 tk9 hcls9 hdi9 hdat9 hcd9 hne9 hde9 F9 N9; refine' raising_mk ?zqrX ?zqrF ?zqrN ?zqrc ?zqrd ?_; (case zqrX => assumption); (case zqrF => exact F9); (case zqrN => exact N9); (case zqrc => exact hcls9); (case zqrd => exact hdat9); (try dsimp only)))))) | ((fail_if_success (fail_if_success (with_reducible show wpAny _ _ (leaving _ (Value.ref _)) _ _ _))); (k_here; (refine' leave_exc ?zqk1 ?zqk2 ?zqk3 ?zqk4 ?zqk5 ?zqk6 ?zqk7 ?_; (case zqk1 => assumption); (case zqk2 => k_asm); (case zqk3 => assumption); (case zqk4 => exact List.forall_mem_cons.mpr ⟨by assumption, by assumption⟩); (case zqk5 => assumption); (case zqk6 => assumption); (case zqk7 => assumption); k_whole; intro h' R' U'; (try dsimp only at R' U' ⊢)))) | ((fail_if_success (fail_if_success (with_reducible show wpAny _ _ (call (Value.builtin "len") (_ :: _)) _ _ _))); (k_here; (with_reducible show wpAny _ _ (call (Value.builtin "len") [Value.ref _]) _ _ _); k_dflt (refine' kun_lenL (News.isList ?zqa ?zqa2) ?zqb ?zqc ?_; (case zqa => k_asm); (case zqa2 => first | exact .head _ | exact .tail _ (.head _) | exact .tail _ (.tail _ (.head _)) | exact .tail _ (.tail _ (.tail _ (.head _))) | exact .tail _ (.tail _ (.tail _ (.tail _ (.head _))))); (case zqb => assumption); (case zqc => first | exact q9 ‹_› | omega); k_whole))) | ((with_reducible show wpAny _ _ (setAttr (Value.ref _) (Str.ofString "spot") _) _ _ _); k_here; k_dflt (refine' setW_spot ?zk1 ?zk2 ?zk3 ?zk4 ?zk5 ?zk6 ?zk7 ?zk8 ?zk9 ?zk12 ?_; (case zk1 => k_asm); (case zk2 => k_asm); (case zk3 => k_asm); (case zk4 => k_inst); (case zk5 => exact rfl); (case zk6 => k_is); (case zk7 => k_is); (case zk8 => k_is); (case zk9 => k_is); (case zk12 => k_upd); k_whole; intro h' F' N'; (try k_sweep))) | (k_unfold; (try dsimp only)) | (k_end; wrow_close) | walk1 | (dsimp only; first | walk1 | (fail_if_success (fail_if_success (with_reducible show wpAny _ _ (call (Value.builtin "len") (_ :: _)) _ _ _))) | (fail_if_success (fail_if_success (with_reducible show wpAny _ _ (call (Value.ref _) (_ :: _)) _ _ _))) | (fail_if_success (fail_if_success (with_reducible show wpAny _ _ (leaving _ (Value.ref _)) _ _ _)))) | (leave1; walk_say "STEP leave1"; try dsimp only) | fail "no step"))
      rename (RaisedD _ _ _ _ _ _ _ _) => hS
      rename (Heap.UpToSlots _ _) => hU
      rename (CodeD _ _) => hcd
      exact hret.2 ⟨n, rfl, hin⟩ _ _ _ _ _ _ hcd (by k_asm) hU hS
end Mine
end
section
namespace Mine
theorem startC24a : True := by
  w_top off
  trivial
end Mine
open PySem PySem.W PyProof.Rows PySem.Calls PyProof.V PySem.Spec
open PyProof.Rows.LCp PyProof.Rows.LCg
namespace Mine
theorem ints_item {vs : List Value} {ns : List Int} (h : IntsAre vs ns) : ∀ {i : Nat} {v : Value}, vs[i]? = some v → ∃ n t, ns[i]? = some n ∧ v = .int n t := by
  induction h with
  | nil => intro i v hv; cases hv
  | cons n t h ih =>
    intro i v hv
    cases i with
    | zero => exact ⟨n, t, rfl, (Option.some.inj hv).symm⟩
    | succ i => exact ih (by simpa using hv)
section
variable {prog : Program} {w : World} {A : Around} {E : Value → Shared → Prop} {s : Shared} {h₀ : Heap} {L : Addr} {m : Str → Option Value} {env : Env}
/-- a turn's end, on a ground that may have changed -/
noncomputable def FgEnd {σ : Type} (Ok : Heap → Prop) (L : Addr) (s : Shared) (own rest : List (Addr × Obj)) (Led : σ → List (Addr × Obj)) (ps : σ → List (Str × Value)) (P : σ → Prop) (s₂ : Shared) : Prop :=
  ∃ (c' : σ) (g' h' : Heap) (tk : Nat) (m' : Str → Option Value), s₂ = { s with heap := h', toks := tk } ∧ Ok g' ∧ Fr g' L h' m' ∧ News g' L h' (Led c' ++ (own ++ rest)) ∧ Has m' (ps c') ∧ P c'
noncomputable def FgPost {σ : Type} (Ok : Heap → Prop) (L : Addr) (s : Shared) (own rest : List (Addr × Obj)) (Led : σ → List (Addr × Obj)) (ps : σ → List (Str × Value)) (P : σ → Prop) (Q : Flow → Shared → Prop) (f : Flow) (s₂ : Shared) : Prop :=
  match f with
  | .ret v => Q (.ret v) s₂
  | .brk => Q .next s₂
  | _ => FgEnd Ok L s own rest Led ps P s₂
noncomputable abbrev FgAt (prog : Program) (w : World) (A : Around) (env : Env) (target : PySem.Expr) (body : List Stmt) (Q : Flow → Shared → Prop) (E : Value → Shared → Prop) (it : Value) (s₂ : Shared) : Prop :=
  codeAny (model prog w) A (.forLoop target it body [] env) (fun r s' => match r with | .ok f => Q f s' | .error e => cameBackBy (model prog w) A env E e s') s₂
theorem For_g {target iter : PySem.Expr} {body : List Stmt} {pos : Pos} {Q : Flow → Shared → Prop}
    (h : wpAny (model prog w) A (eval iter env) (fun xv s₁ => wpAny (model prog w) A (pyIter xv) (FgAt prog w A env target body Q E) E s₁) E s)
    (hs : ∀ x, foldedSetIterable iter env x = pure x := by intro _; rfl) : wpAny (model prog w) A (exec (.For target iter body [] pos) env) Q E s :=
  wpAny_For (wpAny_mono h (fun xv s₁ h₁ => wpAny_mono h₁ (fun it s₂ h₂ => h₂) fun _ _ e => e) fun _ _ e => e) hs
theorem fg_list {σ : Type} {x : Str} {px : Pos} {body : List Stmt} {Q : Flow → Shared → Prop} {l : Addr} {vs : List Value} {ns : List Int} {nn : Nat} {m₀ : Str → Option Value} (Ok : Heap → Prop) (Led : σ → List (Addr × Obj)) (rest : List (Addr × Obj)) (ps : σ → List (Str × Value)) (P : Nat → σ → Prop)
    (hh : A.handled = none) (hx : env.kindOf x = some .local) (hp : (env.scope.kind == .class || (env.scope.kind == .module && env.locals != env.globals)) = false)
    (F : Fr h₀ env.locals s.heap m₀) (hok : Ok h₀) (hnone : ∀ g, Ok g → ∀ b, h₀.get? b = none → g.get? b = none) (hI : IntsAre vs ns) (hl : (l, W.listOf vs.toArray nn) ∈ rest)
    (hc : ∃ c₀, News h₀ env.locals s.heap (Led c₀ ++ rest) ∧ Has m₀ (ps c₀) ∧ P 0 c₀) (adr : ∀ c c', (Led c).map (·.1) = (Led c').map (·.1))
    (turn : ∀ i k t (c : σ) g (u : Str → Option Value) h tk I o, ns[i]? = some k → Ok g → (∀ q ∈ Led c ++ rest, @LT.lt Nat _ q.1 I) → P i c →
      Fr g env.locals h (fun y => if y = x then some (.int k t) else kstB u (ps c) y) → News g env.locals h (Led c ++ ([(I, o)] ++ rest)) →
      wpAny (model prog w) A (execs body env) (FgPost Ok env.locals { s with heap := h, toks := tk } [(I, o)] rest Led ps (P (i + 1)) Q) E { s with heap := h, toks := tk })
    (done : ∀ (c : σ) g (u : Str → Option Value) h tk, Ok g → P ns.length c → Fr g env.locals h (kstB u (ps c)) → News g env.locals h (Led c ++ rest) → Q .next { s with heap := h, toks := tk })
    (hE : PassesOwn (model prog w) A env E := by passes_own) :
    wpAny (model prog w) A (pyIter (.ref l)) (FgAt prog w A env (.Name x px) body Q E) E s := by
  obtain ⟨c₀, N, hk, hp0⟩ := hc
  have hls : s.heap.IsList l vs.toArray := N.isList (List.mem_append_right _ hl)
  have hlt : l < s.heap.objs.size := Heap.lt_size (N _ (List.mem_append_right _ hl)).1
  refine wpAny_pyIter_list hls ?_
  have up : ∀ b o, s.heap.get? b = some o → (s.heap.push { cls := .type "list_iterator", data := .fields #[.ref l, .int 0 0] }).get? b = some o := fun b o e => Heap.get?_push_of_some _ e
  have hI0 : h₀.get? s.heap.objs.size = none := next_is_new F
  have hIL : env.locals ≠ s.heap.objs.size := fun e => absurd F.ns.lt (e ▸ Nat.lt_irrefl _)
  have hlI : ∀ c, ∀ q ∈ Led c ++ rest, @LT.lt Nat _ q.1 s.heap.objs.size := fun c q hq => by
    have key : ∀ a : Addr, a ∈ (Led c ++ rest).map (·.1) → @LT.lt Nat _ a s.heap.objs.size := fun a ha => by
      rw [List.map_append, adr c c₀, ← List.map_append] at ha
      obtain ⟨p, hp, rfl⟩ := List.mem_map.mp ha
      exact Heap.lt_size (N p hp).1
    exact key _ (List.mem_map.mpr ⟨q, hq, rfl⟩)
  have W := Walks.list (prog := prog) (w := w) hh s.heap.objs.size l (Nat.ne_of_lt hlt) vs.toArray
  have hsz : vs.toArray.size = ns.length := by rw [List.size_toArray, hI.length]
  generalize hIe : s.heap.objs.size = I at *
  show codeAny (model prog w) A _ _ _
  refine codeAny_forLoop_any
    (fun k s' => ∃ h' tk m' c g i, s' = { s with heap := h', toks := tk } ∧ h'.IsListIter I l i ∧ Ok g ∧ Fr g env.locals h' m' ∧ News g env.locals h' (Led c ++ rest) ∧ Has m' (ps c) ∧ P i c ∧ i ≤ ns.length ∧ k = ns.length + 1 - i) ?_ (ns.length + 1)
    ⟨_, s.toks, m₀, c₀, h₀, 0, rfl, ⟨_, hIe ▸ Heap.get?_push_size _ rfl, rfl, rfl⟩, hok, F.keeps up, N.grown up, hk, hp0, Nat.zero_le _, rfl⟩
  rintro k s' ⟨h', tk, m', c, g, i, rfl, hst', hok', F', N', hhas, hP, hi, rfl⟩
  have hgI : g.get? I = none := hnone g hok' I hI0
  have hl' : h'.IsList l vs.toArray := N'.isList (List.mem_append_right _ hl)
  have next : ∀ h₁ : Heap, (∀ b o, b ∉ [I] → h'.get? b = some o → h₁.get? b = some o) → Fr g env.locals h₁ m' ∧ News g env.locals h₁ (Led c ++ rest) := fun h₁ hk₁ =>
    ⟨⟨F'.ns.at' fun o e => hk₁ _ o (by simpa using hIL) e, fun b o e => hk₁ b o (fun hb => by rw [List.mem_singleton.mp hb, hgI] at e; cases e) (F'.keep b o e), F'.above⟩, fun p hp => ⟨hk₁ _ _ (by simpa using Nat.ne_of_lt (hlI c p hp)) (N' p hp).1, (N' p hp).2⟩⟩
  by_cases hlt2 : i < ns.length
  · refine W.item i _ _ _ (by rw [hsz]; exact hlt2) ⟨hst', hl'⟩ fun v h₁ tk₁ hv hst₁ hk₁ => ?_
    obtain ⟨kk, t, hkk, rfl⟩ := ints_item hI (i := i) (v := v) (by simpa using hv)
    obtain ⟨F₁, N₁⟩ := next h₁ hk₁
    obtain ⟨o, ho, hoc, hod⟩ := hst₁.1
    refine wpAny_of_eq (show letOwnedTupleGo (.Name x px) (.ref I) (.int kk t) = pure () from rfl) ?_
    refine wpAny_assign_Name (wpAny_storeName_local hx F₁.ns (fun h₂ hn₂ hs₂ => ?_) hp)
    have F₂ := F₁.set hn₂ hs₂
    have ho₂ : h₂.get? I = some o := hs₂.extBut I o (Ne.symm hIL) ho
    have N₂ : News g env.locals h₂ (Led c ++ ([(I, o)] ++ rest)) := fun p hp => by
      rcases List.mem_append.mp hp with hp | hp
      · exact (N₁.set hs₂) p (List.mem_append_left _ hp)
      · rcases List.mem_append.mp hp with hp | hp
        · rw [List.mem_singleton.mp hp]; exact ⟨ho₂, Ne.symm hIL, hgI⟩
        · exact (N₁.set hs₂) p (List.mem_append_right _ hp)
    have em : (fun y => if y = x then some (Value.int kk t) else m' y) = fun y => if y = x then some (Value.int kk t) else kstB m' (ps c) y := by rw [hhas.kst]
    rw [em] at F₂
    have ht := turn i kk t c g m' h₂ (tk₁ + 1) I o hkk hok' (hlI c) hP F₂ N₂
    have ht2 := wpAny_passesOwn hE ht
    refine wpAny_mono ht2 (fun f s₃ q => ?_) fun _ _ e => e
    have fin : FgEnd Ok env.locals { s with heap := h₂, toks := tk₁ + 1 } [(I, o)] rest Led ps (P (i + 1)) s₃ → ∃ m, m < ns.length + 1 - i ∧ ∃ h' tk m' c g i, s₃ = { s with heap := h', toks := tk } ∧ h'.IsListIter I l i ∧ Ok g ∧ Fr g env.locals h' m' ∧ News g env.locals h' (Led c ++ rest) ∧ Has m' (ps c) ∧ P i c ∧ i ≤ ns.length ∧ m = ns.length + 1 - i := by
      rintro ⟨c', g', h₃, tk₃, m₃, rfl, ok₃, F₃, N₃, hh₃, hP₃⟩
      refine ⟨ns.length + 1 - (i + 1), s1 ‹_›, h₃, tk₃, m₃, c', g', i + 1, rfl, ⟨o, (N₃ _ (List.mem_append_right _ (.head _))).1, hoc, hod⟩, ok₃, F₃, fun p hp => N₃ p ?_, hh₃, hP₃, hlt2, rfl⟩
      rcases List.mem_append.mp hp with hp | hp
      · exact List.mem_append_left _ hp
      · exact List.mem_append_right _ (.tail _ hp)
    cases f with
    | ret v => exact q
    | brk => exact q
    | next => exact fin q
    | cont => exact fin q
  · have hin : i = ns.length := by first | exact s3 ‹_› ‹_› | omega
    subst hin
    refine W.done _ _ _ ⟨by rw [hsz]; exact hst', hl'⟩ fun h₁ tk₁ hk₁ => wpAny_execs_nil ?_
    obtain ⟨F₁, N₁⟩ := next h₁ hk₁
    exact done c g m' h₁ tk₁ hok' hP (by rw [hhas.kst]; exact F₁) N₁
theorem gs_enum {elt : PySem.Expr} {ifs : List PySem.Expr} {x x₂ : Str} {px px₂ tp : Pos} {tk} {scope : Scope} {cl : List (Str × Addr)} {Fin : Shared → Addr → List Value → List (Addr × Obj) → Prop} {l : Addr} {n1 : Nat} {vs : List Value} {ns : List Int} {news : List (Addr × Obj)} (J : Nat → List Value → List (Addr × Obj) → Prop)
    (hh : A.handled = none) (F : Fr h₀ L s.heap m) (N : News h₀ L s.heap news) (m1 : (l, W.listOf vs.toArray n1) ∈ news) (hI : IntsAre vs ns) (hsz : ns.length ≤ sizeLine)
    (hkind : scope.kind = .function) (hx : scope.names.lookup x = some .local) (hx₂ : scope.names.lookup x₂ = some .local) (hxx : x ≠ x₂) (hj : J 0 [] news)
    (turn : ∀ s', (∃ h, s' = { s with heap := h }) → GcTurn prog w A h₀ L m elt ifs (fun C => compEnvC scope cl C env) (fun i m₂ => ∃ v0 v1, (∃ k t u, ns[i]? = some k ∧ v0 = .int (i : Nat) t ∧ v1 = .int k u) ∧ m₂ x = some v0 ∧ m₂ x₂ = some v1) J ns.length s')
    (fin : ∀ s', (∃ h, s' = { s with heap := h }) → ∀ D ys nx, (∀ p ∈ nx, p.1 ≠ D) → (∀ p ∈ news, p.1 < D) → J ns.length ys nx → Fin s' D ys nx) :
    wpAny (model prog w) A (call (.type "enumerate") [.ref l]) (fun xv s₁ => wpAny (model prog w) A (pyIter xv) (GcAt prog w A h₀ L m env elt (.Tuple [.Name x px, .Name x₂ px₂] tk tp) ifs scope cl Fin) E s₁) E s := by
  have hls : s.heap.IsList l vs.toArray := N.isList m1
  have a1 : l < s.heap.objs.size := Heap.lt_size (N _ m1).1
  have hLs : L < s.heap.objs.size := F.ns.lt
  have hab : h₀.objs.size ≤ L := F.above
  refine call_enumerate_list hls fun h' hE hit hsz' hkeep => ?_
  have F' : Fr h₀ L h' m := ⟨F.ns.keeps hkeep, fun b o e => hkeep b o (F.keep b o e), F.above⟩
  have N' : News h₀ L h' news := fun p hp => ⟨hkeep _ _ (N p hp).1, (N p hp).2⟩
  have hne1 : l ≠ s.heap.objs.size + 1 := Nat.ne_of_lt (Nat.lt_succ_of_lt a1)
  have hne0 : l ≠ s.heap.objs.size := Nat.ne_of_lt a1
  have W := WalksT.enumerate (prog := prog) (w := w) hh (s.heap.objs.size + 1) s.heap.objs.size l (Nat.succ_ne_self _) hne1 hne0 vs.toArray
  have hst : (∃ old, IsEnum h' (s.heap.objs.size + 1) s.heap.objs.size (0 : Nat) old) ∧ h'.IsListIter s.heap.objs.size l 0 ∧ h'.IsList l vs.toArray := ⟨⟨_, hE⟩, hit, hls.at fun o e => hkeep l o e⟩
  have hn : vs.toArray.size = ns.length := by rw [List.size_toArray, hI.length]
  rw [← hn] at hsz turn fin
  have up : ∀ k, L ≠ s.heap.objs.size + k := fun k e => Nat.ne_of_lt (Nat.lt_of_lt_of_le hLs (Nat.le_add_right _ k)) e
  have hLf : L ∉ [s.heap.objs.size + 1, s.heap.objs.size, l] := by
    intro hm
    simp only [List.mem_cons, List.not_mem_nil, or_false] at hm
    rcases hm with e | e | e
    · exact up 1 e
    · exact up 0 e
    · exact (N _ m1).2.1 e.symm
  have hwr : ∀ b ∈ [s.heap.objs.size + 1, s.heap.objs.size], h₀.get? b = none := by
    intro b hb
    simp only [List.mem_cons, List.not_mem_nil, or_false] at hb
    have nw : ∀ k, h₀.get? (s.heap.objs.size + k) = none := fun k => Heap.get?_none_of_le (Nat.le_trans hab (Nat.le_trans (Nat.le_of_lt hLs) (Nat.le_add_right _ k)))
    rcases hb with rfl | rfl
    · exact nw 1
    · exact nw 0
  refine W.self 0 _ _ _ hst ?_
  have hP2 : ∀ (i : Nat) (vals : Array Value), (∃ t x, vs.toArray[i]? = some x ∧ vals = #[.int i t, x]) → ∃ v0 v1, vals = #[v0, v1] ∧ ∃ k t u, ns[i]? = some k ∧ v0 = .int (i : Nat) t ∧ v1 = .int k u := by
    rintro i vals ⟨t, x, hx, rfl⟩
    obtain ⟨k, u, hk, rfl⟩ := ints_item hI (i := i) (v := x) (by simpa using hx)
    exact ⟨_, _, rfl, k, t, u, hk, rfl, rfl⟩
  refine ⟨_, _, _, _, _, _, news, J, rfl, adv_pair W hP2 hkind hx hx₂ hxx hh hLf hwr, W.sub, W.frame, ?_, W.done, W.self 0, hsz, hst, ?_, hLf, hwr, ?_, F', N', hj, turn _ ⟨_, rfl⟩, fin _ ⟨_, rfl⟩⟩
  · rintro i h ⟨⟨old, e1⟩, ⟨o1, e2, _⟩, _⟩ b hb
    simp only [List.mem_cons, List.not_mem_nil, or_false] at hb
    rcases hb with rfl | rfl
    · exact ⟨_, e1⟩
    · exact ⟨_, e2⟩
  · intro b hb
    show b < h'.objs.size
    rw [hsz']
    simp only [List.mem_cons, List.not_mem_nil, or_false] at hb
    have lt2 : ∀ k, k < 2 → @LT.lt Nat _ (s.heap.objs.size + k) (s.heap.objs.size + 2) := fun k hk => Nat.add_lt_add_left hk _
    rcases hb with rfl | rfl | rfl
    · exact lt2 1 (by decide)
    · exact lt2 0 (by decide)
    · exact Nat.lt_trans a1 (lt2 0 (by decide))
  · intro p hp hm
    have hq1 : p.1 < s.heap.objs.size := Heap.lt_size (N p hp).1
    simp only [List.mem_cons, List.not_mem_nil, or_false] at hm
    have dn : ∀ k, p.1 ≠ s.heap.objs.size + k := fun k e => Nat.ne_of_lt (Nat.lt_of_lt_of_le hq1 (Nat.le_add_right _ k)) e
    rcases hm with e | e
    · exact dn 1 e
    · exact dn 0 e
/-- a comprehension over a list of pairs -/
theorem gs_tups {elt : PySem.Expr} {ifs : List PySem.Expr} {x x₂ : Str} {px px₂ tp : Pos} {tk} {scope : Scope} {cl : List (Str × Addr)} {Fin : Shared → Addr → List Value → List (Addr × Obj) → Prop} {l : Addr} {items : Array Value} {tups : List (Addr × Obj)} {P2 : Nat → Value → Value → Prop} {news : List (Addr × Obj)} (J : Nat → List Value → List (Addr × Obj) → Prop)
    (hh : A.handled = none) (F : Fr h₀ L s.heap m) (N : News h₀ L s.heap news) (hl : s.heap.IsList l items) (hlL : l ≠ L) (hsz : items.size ≤ sizeLine) (htn : ∀ p ∈ tups, p ∈ news)
    (hP2 : ∀ (i : Nat) v, items[i]? = some v → ∃ T v0 v1 k, v = .ref T ∧ (T, ({ cls := .type "tuple", data := .seq #[v0, v1] k } : Obj)) ∈ tups ∧ P2 i v0 v1)
    (hkind : scope.kind = .function) (hx : scope.names.lookup x = some .local) (hx₂ : scope.names.lookup x₂ = some .local) (hxx : x ≠ x₂) (hj : J 0 [] news)
    (turn : ∀ s', (∃ h, s' = { s with heap := h }) → GcTurn prog w A h₀ L m elt ifs (fun C => compEnvC scope cl C env) (fun i m₂ => ∃ v0 v1, P2 i v0 v1 ∧ m₂ x = some v0 ∧ m₂ x₂ = some v1) J items.size s')
    (fin : ∀ s', (∃ h, s' = { s with heap := h }) → ∀ D ys nx, (∀ p ∈ nx, p.1 ≠ D) → (∀ p ∈ news, p.1 < D) → J items.size ys nx → Fin s' D ys nx) :
    wpAny (model prog w) A (pyIter (.ref l)) (GcAt prog w A h₀ L m env elt (.Tuple [.Name x px, .Name x₂ px₂] tk tp) ifs scope cl Fin) E s := by
  have hlt : l < s.heap.objs.size := by obtain ⟨_, e, _⟩ := hl; exact Heap.lt_size e
  refine wpAny_pyIter_list hl ?_
  have up : ∀ b o, s.heap.get? b = some o → (s.heap.push { cls := .type "list_iterator", data := .fields #[.ref l, .int 0 0] }).get? b = some o := fun b o e => Heap.get?_push_of_some _ e
  have W := Walks.list (prog := prog) (w := w) hh s.heap.objs.size l (Nat.ne_of_lt hlt) items
  have hLI : L ≠ s.heap.objs.size := fun e => absurd F.ns.lt (e ▸ Nat.lt_irrefl _)
  have htI : ∀ p ∈ tups, p.1 ≠ s.heap.objs.size := fun p hp => Nat.ne_of_lt (Heap.lt_size (N p (htn p hp)).1)
  refine ⟨_, _, _, _, _, _, news, J, rfl, adv_tups (Nat.ne_of_lt hlt) htI hP2 hkind hx hx₂ hxx hh hLI (next_is_new F), ?_, ?_, ?_, ?_, ?_, hsz, ⟨⟨⟨_, Heap.get?_push_size _ rfl, rfl, rfl⟩, hl.push _⟩, fun p hp => up _ _ (N p (htn p hp)).1⟩, ?_, ?_, ?_, ?_, F.keeps up, N.grown up, hj, turn _ ⟨_, rfl⟩, fin _ ⟨_, rfl⟩⟩
  · intro b hb
    rw [List.mem_singleton.mp hb]
    exact .head _
  · rintro i h h' ⟨st, ht⟩ hk
    exact ⟨W.frame i h h' st fun b hb o e => hk b (by
      rcases List.mem_cons.mp hb with rfl | hb
      · exact .head _
      · rw [List.mem_singleton.mp hb]; exact .tail _ (.head _)) o e, fun p hp => hk _ (.tail _ (.tail _ (List.mem_map.mpr ⟨p, hp, rfl⟩))) _ (ht p hp)⟩
  · rintro i h st b hb
    rw [List.mem_singleton.mp hb]
    obtain ⟨o, e, _⟩ := st.1.1
    exact ⟨o, e⟩
  · intro s Q E st hQ
    exact W.done s Q E st.1 hQ
  · intro s Q E st hQ
    exact W.self 0 s Q E st.1 hQ
  · intro b hb
    show b < (s.heap.push _).objs.size
    rw [Heap.size_push]
    rcases List.mem_cons.mp hb with rfl | hb
    · exact Nat.lt_succ_self _
    · rcases List.mem_cons.mp hb with rfl | hb
      · exact Nat.lt_succ_of_lt hlt
      · obtain ⟨p, hp, rfl⟩ := List.mem_map.mp hb
        exact Nat.lt_succ_of_lt (Heap.lt_size (N p (htn p hp)).1)
  · intro hm
    rcases List.mem_cons.mp hm with e | hm
    · exact hLI e
    · rcases List.mem_cons.mp hm with e | hm
      · exact hlL e.symm
      · obtain ⟨p, hp, e⟩ := List.mem_map.mp hm
        exact (N p (htn p hp)).2.1 e
  · intro b hb
    rw [List.mem_singleton.mp hb]
    exact next_is_new F
  · intro p hp hm
    exact absurd (Heap.lt_size (N p hp).1) ((List.mem_singleton.mp hm) ▸ Nat.lt_irrefl _)
end
end Mine
end
section
namespace Mine
theorem startC24b : True := by
  w_top off
  trivial
end Mine
open PySem PySem.W PyProof.Rows PySem.Calls PyProof.V PySem.Spec
namespace Mine
section
variable {prog : Program} {w : World} {A₀ A : Around} {s : Shared} {base h₀ g₀ : Heap} {outer : List Env} {L a : Addr} {m : Str → Option Value} {cn : Str} {cs : Scope} {ccd : Value} {news : List (Addr × Obj)} {K : Frag} {p : Program} {loose : List Str} {mean : ExcName → Option Value} {mg mb : Str → Option Value}
    {R : Result → Shared → Prop} {name qual : Str} {params : Arguments} {body : List Stmt} {scope : Scope} {dV kV doc pm cdv ct oc : Value} {an od : Option Addr} {osl : Array (Option Value)} {f : Addr} {args : Args} {binds : List (Str × Value)}
/-- a def with a try and with cells, called from the law's frame -/
theorem code_defSC0 (B : Below A₀ base [] h₀) (F : Fr h₀ L s.heap m) (X₀ : K.In h₀) (N : News h₀ L s.heap news) (T : Top p loose mean mg mb h₀) (hA : A.frames = some [envOf cn cs L a ccd])
    (ho : K.lookup f = some ⟨oc, od, .func (fnOf name qual params body scope dV kV doc pm an cdv ct), osl⟩) (hcd : codeIn K cdv qual = true) (hroom : A.depth < recursionLimit)
    (hbind : BindsTo s (fnOf name qual params body scope dV kV doc pm an cdv ct) args binds) (hkind : (binds.all fun y => scope.names.lookup y.1 == some .local || scope.names.lookup y.1 == some .cell) = true)
    (hnd : ((cellsFrom 0 scope.names []).map (·.1)).Nodup)
    (h : ∀ g L' h₁ tk cells, Fr h₀ L g m → Fr g L' h₁ (bindL (envOfC qual scope L' f cdv).kindOf binds fun _ => none) → News g L' h₁ (cells ++ news) →
      CellsAre (bindC (envOfC qual scope L' f cdv).kindOf binds fun _ => none) (cellsFrom (L' + 1) scope.names []) cells → Below A base [envOf cn cs L a ccd] g → K.In g → Top p loose mean mg mb g → KtsDicts ([envOf cn cs L a ccd].filterMap (·.frame)) g → (∀ p ∈ news, p.1 < L') →
      wpAny (model prog w) (A.deeper (envOfC qual scope L' f cdv)) (execs body (envOfC qual scope L' f cdv))
        (fun fl s' => LeaveS0 ([envOf cn cs L a ccd].filterMap (·.frame)) h₀ L m g R (match fl with | .ret v => v | _ => .none) s')
        (fun e s' => wpAny (model prog w) (A.deeper (envOfC qual scope L' f cdv)) (leaving (envOfC qual scope L' f cdv) e) (fun _ s'' => R (.error e) s'') (fun e' s'' => R (.error e') s'') s')
        { s with heap := h₁, toks := tk })
    (hck : cs.kind = .function) (hco : scope.isCoroutine = false) (hgen : scope.isGenerator = false) (hk : scope.kind = .function) : codeAny (model prog w) A (.call (.ref f) args) R s := by
  have X := X₀.keeps F.keep
  obtain ⟨oL, es, ep, hLg, hLd, hN, hNs, st, B₂⟩ := kts_enter B F N hA hck
  refine codeAny_call_function hroom (X _ _ ho) rfl hco hgen rfl (codeRec_of X hcd) (hbind _ _ _ _ ?_)
  refine wpAny_newFunctionEnv_cells hk (kindsX hkind _) fun env' he s' x => ?_
  subst he
  refine ⟨(T.nolimit.keeps F.keep).keeps x.toInCall.keep, codeAny_func ?_⟩
  obtain ⟨h₁, tk, rfl, _⟩ := x.done
  have hk₁ := x.toInCall.keep
  obtain ⟨cells, NC, Y⟩ := Cl.news (h₀ := s.heap) (Nat.le_refl _) fun n c hm => ⟨x.cell n c (lookup_of_mem_nodup (cellsFrom_names scope.names 0 (s.heap.objs.size + 1) [] [] rfl ▸ hnd) hm), x.above n c hm⟩
  refine wpAny_mono (h _ s.heap.objs.size h₁ tk cells ⟨hN _ hLg, st, F.above⟩ ⟨x.toInCall.ns, fun b o e => hk₁ b o (of_hideAll _ e), Nat.le_of_eq (hideAll_size _ _)⟩ (fun p hp => ?_) Y B₂ (X₀.keeps st) (T.keeps st) (fun b hb => by
      rcases kts_mem hb with rfl | z
      · exact ⟨oL, es, ep, hLg, hLd⟩
      · simp at z) (fun p hp => Heap.lt_size (N p hp).1)) (fun fl s' hl => ?_) fun _ _ y => y
  · rcases List.mem_append.mp hp with hp | hp
    · refine ⟨(NC p hp).1, (NC p hp).2.1, ?_⟩
      cases q : (hideAll s.heap (news.map (·.1))).get? p.1 with
      | none => rfl
      | some o => have := of_hideAll _ q; rw [(NC p hp).2.2] at this; cases this
    · exact ⟨hk₁ _ _ (N p hp).1, Nat.ne_of_lt (Heap.lt_size (N p hp).1), hideAll_none _ (List.mem_map_of_mem hp)⟩
  obtain ⟨g', L', m', news', T', F', N', k⟩ := hl
  have nL₀ : h₀.get? L = none := kts_self F
  obtain ⟨sl, hs⟩ := T'.up hLg
  refine k ⟨hNs sl _ (F'.keep _ _ hs), fun b o e => F'.keep b o (T'.other b o (st b o e) (fun q => by
    rcases kts_mem q with z | z
    · rw [z, nL₀] at e
      cases e
    · simp at z)), F.above⟩ fun p hp => ⟨(N' p hp).1, fun q => ?_, ?_⟩
  · have := (N' p hp).2.2; rw [q, hs] at this; cases this
  · cases q : h₀.get? p.1 with
    | none => rfl
    | some o =>
      obtain ⟨sl', hs'⟩ := T'.up (st _ _ q)
      have := (N' p hp).2.2
      rw [hs'] at this
      cases this
end
section
variable {prog : Program} {w : World} {A₀ : Around} {E : Value → Shared → Prop} {s' : Shared} {base g g₀ G : Heap} {outer : List Env} {L a e de C : Addr} {m : Str → Option Value} {name : Str} {scope : Scope} {cd : Value} {cl : List (Str × Addr)}
  {n : Str} {b₀ : Stmt} {suite : List Stmt} {pos np : Pos} {rest : List ExceptHandler} {Q : Flow → Shared → Prop} {news : List (Addr × Obj)} {KF : Frag}
  {p : Program} {loose : List Str} {mean : ExcName → Option Value} {mg mb : Str → Option Value} {x : Str}
theorem caught_excX (R : RaisedD base G (envX name scope L a cd cl :: outer) e (.ref C) de news s'.heap) (F : Fr g L G m) (K : Below A₀ base outer g) (hsm : G.UpToSlots s'.heap) (XB : KF.In base) (TB : Top p loose mean mg mb base)
    (D : KtsDicts (outer.filterMap (·.frame)) g) (T0 : KtsTurn (outer.filterMap (·.frame)) g₀ g) (ex : nsIn KF mainGlobals x = some (some (.ref C))) (q : ktsIn KF C "BaseException" = true)
    (k : ∀ h' g' oe tk, KtsTurn (outer.filterMap (·.frame)) g₀ g' → Fr g' L h' (fun y => if y = n then some (.ref e) else m y) → oe.cls = .ref C → oe.dict = some de → (∀ c, oe.data ≠ .cls c) → News g' L h' ((e, oe) :: news) → Below A₀ base outer g' → KF.In g' → Top p loose mean mg mb g' → KtsDicts (outer.filterMap (·.frame)) g' →
      wpAny (model prog w) ((A₀.deeper (envX name scope L a cd cl)).mark (some (.ref e))) (execs (b₀ :: suite) (envX name scope L a cd cl))
        (fun f s₄ => wpAny (model prog w) (A₀.deeper (envX name scope L a cd cl)) (do bindName (envX name scope L a cd cl) n .none; unbindBehindTheSuite (envX name scope L a cd cl) n pos) (fun _ s₅ => Q f s₅) E s₄)
        (AsSuiteRaised (model prog w) ((A₀.deeper (envX name scope L a cd cl)).mark (some (.ref e))) (envX name scope L a cd cl) n pos (notedBy (model prog w) ((A₀.deeper (envX name scope L a cd cl)).mark (some (.ref e))) (envX name scope L a cd cl) (cameBackBy (model prog w) (A₀.deeper (envX name scope L a cd cl)) (envX name scope L a cd cl) E)))
        { s' with heap := h', toks := tk })
    (hk : scope.kind = .function := by rfl) (hlo : (envX name scope L a cd cl).kindOf n = some .local := by rfl) (hx : (envX name scope L a cd cl).kindOf x = some .globalImplicit := by rfl) (hd : (x == ("__debug__" : Str)) = false := by decide) :
    wpAny (model prog w) (A₀.deeper (envX name scope L a cd cl)) (noteFrame (.ref e) (envX name scope L a cd cl))
      (fun _ s₂ => wpAny (model prog w) (A₀.deeper (envX name scope L a cd cl)) (setFlight (.ref e) none) (fun _ s₃ =>
        wpAny (model prog w) (A₀.deeper (envX name scope L a cd cl)) (handleBy (.ref e) (envX name scope L a cd cl) (.ExceptHandler (some (.Name x np)) (some n) (b₀ :: suite) pos :: rest)) Q E s₃) E s₂) E s' := by
  obtain ⟨B, a0, hB, hBG, hl, hfl, kd⟩ := R
  have hL : B.get? L = none := by
    obtain ⟨_, ⟨L', _, hf, hn', _⟩, _⟩ := hfl.2.2.1
    obtain rfl : L = L' := Option.some.inj hf
    exact hn'
  refine looks_exc (Around.frames_deeper K.stack) rfl hfl kd fun h₄ hheld₄ hsm₄ kd₄ => ?_
  refine lands_exc hheld₄ kd₄ fun h₅ hheld hsm₅' kd₅ => ?_
  have hsm₅ := hsm₄.trans hsm₅'
  obtain ⟨g₅, T₅, F₅, K₅⟩ := kts_ground (name := name) (scope := scope) (a := a) (cd := cd) K F hBG hheld.1 (hsm.trans hsm₅)
  have X₅ : KF.In g₅ := XB.keeps K₅.stays
  have P₅ : TopRead p loose mg mb g₅ := topRead_of (TB.keeps K₅.stays)
  obtain ⟨ob, hob, hobc⟩ := hheld.there
  obtain ⟨nm, q', N, bs, bm, hdct, sn, sub, ab, col, dd, k0, k1, k2, k3, k5, newId, hC, hbase, hbT⟩ := kts_cls X₅ q
  have hC₅ := F₅.keep _ _ hC
  refine wpAny_handleBy_cons (codeAny_handlers_test (nameX_K F₅ X₅ P₅ ex ?_ hk hx hd)) (by intro q; cases q)
  refine wpAny_excMatches_sub_self hC₅ hob hobc hbase (codeAny_handlers_suite_as ?_)
  refine again_exc hheld kd₅ fun h₆ hfl₆ hsm₆ kd₆ => ?_
  obtain ⟨g₆, T₆, F₆, K₆⟩ := kts_ground (name := name) (scope := scope) (a := a) (cd := cd) K F hBG hfl₆.1 ((hsm.trans hsm₅).trans hsm₆)
  obtain ⟨oe, ws, hoe, hoec, hoed, hoe0⟩ := hfl₆.first
  obtain ⟨oe', hoe', hdi⟩ := kd₆
  obtain rfl : oe' = oe := Option.some.inj (hoe'.symm.trans hoe)
  have ne₆ : g₆.get? e = none := T₆.none_ _ (kts_fresh (name := name) (scope := scope) (a := a) (cd := cd) F hBG hfl₆.2.1 fun o ho m => by
    obtain ⟨_, o', ho', hd⟩ := K.frames.mem m
    rw [ho] at ho'
    cases ho'
    obtain ⟨sl, hs⟩ := ((hsm.trans hsm₅).trans hsm₆) _ _ (F.keep _ _ ho) hd
    rw [hoe] at hs
    cases hs
    exact hd _ hoed)
  have neL : e ≠ L := fun z => by
    obtain ⟨oL, es, ep, hoL, hdL, _⟩ := F₆.ns
    rw [← z, hoe] at hoL
    cases hoL
    rw [hoed] at hdL
    cases hdL
  have N₆ : News g₆ L h₆ ((e, oe') :: news) := fun q hq => by
    rcases List.mem_cons.mp hq with rfl | hq
    · exact ⟨hoe, neL, ne₆⟩
    · exact ⟨hfl₆.1 _ _ (hl q hq).1, (fun z => by have := (hl q hq).1; rw [z, hL] at this; cases this), T₆.none_ _ (kts_none F.keep (hl q hq).2.1)⟩
  have X₆ : KF.In g₆ := XB.keeps K₆.stays
  have P₆ : Top p loose mean mg mb g₆ := TB.keeps K₆.stays
  have D₆ : KtsDicts (outer.filterMap (·.frame)) g₆ := D.turn T₆
  refine storeX_L F₆ N₆ (fun h₇ F₇ N₇ => ?_) hk hlo
  exact k h₇ g₆ _ _ (T0.trans T₆) F₇ hoec hdi (fun c z => by rw [hoed] at z; cases z) N₇ K₆ X₆ P₆ D₆
end
end Mine
end
section
local macro_rules | `(tactic| walk_at "no such key 0") => `(tactic| skip)
theorem Mine.resetC24 : True ∧ True := by
  first | (walk1; done) | exact ⟨trivial, trivial⟩
end
section
namespace Mine
theorem startC24 : True := by
  w_top off
  trivial
end Mine
open PySem PySem.W PyProof.Rows PySem.Calls PyProof.V PySem.Spec
namespace Mine
local macro_rules | `(tactic| walk_at "execs cons") => `(tactic| (k_here; (fail_if_success (fail_if_success k_gentoks)); with_reducible refine genTok ?_; intro tk))
local macro_rules | `(tactic| walk_at "execs nil") => `(tactic| (k_here; (fail_if_success (fail_if_success k_gentoks)); with_reducible refine genTok ?_; intro tk))
open PyProof.Rows.LCp PyProof.Rows.LCg
theorem News.sub {h₀ h : Heap} {L : Addr} {a b : List (Addr × Obj)} (N : News h₀ L h a) (k : ∀ p ∈ b, p ∈ a) : News h₀ L h b := fun p hp => N p (k p hp)
theorem name3 {h₀ h : Heap} {L a b c : Addr} {o1 o2 o3 : Obj} {r : List (Addr × Obj)} (_N : News h₀ L h ((a, o1) :: (b, o2) :: (c, o3) :: r)) {P : Prop} (k : ∀ oG oL oS, oG = o1 → oL = o2 → oS = o3 → P) : P := k _ _ _ rfl rfl rfl
theorem nameObj {o : Obj} {v : Data} (_h : o.data = v) {P : Prop} (k : ∀ o2, o2 = o → P) : P := k o rfl
theorem newLt {h₀ h : Heap} {L T : Addr} {o : Obj} {l : List (Addr × Obj)} (_N : News h₀ L h ((T, o) :: l)) (hq : AllLt T l) : ∀ p ∈ l, @LT.lt Nat _ p.1 T := allLt_mem hq
theorem tailIn {h₀ h : Heap} {L : Addr} {q : Addr × Obj} {a b : List (Addr × Obj)} (_N : News h₀ L h (q :: (a ++ b))) : ∀ p ∈ b, p ∈ q :: (a ++ b) := fun p hp => .tail _ (List.mem_append_right _ hp)
theorem midIn {q : Addr × Obj} {a b c : List (Addr × Obj)} (k : ∀ p ∈ c, p ∈ b) : ∀ p ∈ a ++ c, p ∈ q :: (a ++ b) := fun p hp => by
  rcases List.mem_append.mp hp with hp | hp
  · exact .tail _ (List.mem_append_left _ hp)
  · exact .tail _ (List.mem_append_right _ (k p hp))
theorem inC {a l : List (Addr × Obj)} {q : Addr × Obj} (h : q ∈ a) (k : ∀ p ∈ l, p ∈ a) : ∀ p ∈ q :: l, p ∈ a := fun p hp => by
  rcases List.mem_cons.mp hp with rfl | hp
  · exact h
  · exact k p hp
theorem TupsIn.mono2 {news news2 : List (Addr × Obj)} {vs : List Value} {ds : List (Int × Str)} (h : TupsIn news vs ds) : TupsIn (news ++ news2) vs ds := h.mono fun p hp => List.mem_append_left _ hp
theorem q6 {a b : Nat} (h : (a : Int) = (b : Int)) : b ≤ a := Nat.le_of_eq (Int.ofNat.inj h).symm
theorem q7 {a b : Nat} (h : a ≤ b) (h2 : ¬ (a : Int) = (b : Int)) : a < b := Nat.lt_of_le_of_ne h fun e => h2 (congrArg _ e)
theorem mod6lt (x : Int) (h : Int.fmod x 6 < 4) : Int.fmod x 6 = 0 ∨ Int.fmod x 6 = 1 ∨ Int.fmod x 6 = 2 ∨ Int.fmod x 6 = 3 := by
  obtain ⟨k, hk⟩ := Int.eq_ofNat_of_zero_le (Int.fmod_nonneg_of_pos x (b := 6) (by decide))
  rw [hk] at h ⊢
  exact (by decide : ∀ k : Nat, k < 4 → (k : Int) = 0 ∨ (k : Int) = 1 ∨ (k : Int) = 2 ∨ (k : Int) = 3) k (Int.ofNat_lt.mp h)
theorem name_goesX {M : Model} {A : Around} {E : Value → Shared → Prop} {s : Shared} {h₀ : Heap} {L a : Addr} {m : Str → Option Value} {name : Str} {scope : Scope} {cd : Value} {cl : List (Str × Addr)} {news : List (Addr × Obj)} {n : Str} {pos : Pos} {Q : Unit → Shared → Prop} (F : Fr h₀ L s.heap m) (N : News h₀ L s.heap news)
    (h : ∀ h' v, Fr h₀ L h' (fun x => if x = n then v else m x) → News h₀ L h' news → Q () { s with heap := h', toks := s.toks + 1 })
    (hk : scope.kind = .function := by rfl) (hl : (envX name scope L a cd cl).kindOf n = some .local := by rfl) :
    wpAny M A (do bindName (envX name scope L a cd cl) n .none; unbindBehindTheSuite (envX name scope L a cd cl) n pos) Q E s :=
  wpAny_nameGoes_keeps hl F.ns (by show (scope.kind == .class || (scope.kind == .module && L != mainGlobals)) = false; rw [hk]; rfl) fun h' v hn hs => h h' v (F.set hn hs) (N.set hs)
theorem code_get {prog : Program} {w : World} {A : Around} {E : Value → Shared → Prop} {s : Shared} {h₀ : Heap} {L e de : Addr} {m : Str → Option Value} {oe od : Obj} {c : Str} {led : List (Addr × Obj)} {expr : Bool} {Q : Value → Shared → Prop} (X : (hd.heap_1 w.params).In h₀) (F : Fr h₀ L s.heap m) (N : News h₀ L s.heap led)
    (me : (e, oe) ∈ led) (md : (de, od) ∈ led) (hcls : oe.cls = .ref 41) (hdi : oe.dict = some de) (hnc : ∀ c, oe.data ≠ .cls c) (hcd : CodeD c od) (hq : ∀ t, Q (.str c t) { s with toks := s.toks + 1 }) : wpAny (model prog w) A (getAttr (.ref e) "code" expr) Q E s := by
  obtain ⟨nm, qn, Nn, bs, sn, sub, ab, col, dd, k0, k1, k2, k3, k5, mN, hC, hN, hi, hno⟩ := excI_of (X.keeps F.keep) (excI_41 w)
  obtain ⟨mA, t, hA, hv⟩ := hcd de s.heap (N _ md).1
  obtain ⟨hh, g, d, tt, os⟩ := s
  exact xi_get PySem.F.attrBase_Exception hC hN (hno _ (by simp [excNames])) (hno _ (by simp [excNames])) (hno _ (by simp [excNames])) lk_code (N _ me).1 hcls hnc hdi hA hv rfl (hq t)
theorem ne_tup {prog : Program} {w : World} {A : Around} {E : Value → Shared → Prop} {s : Shared} {Q : Value → Shared → Prop} {a b : Value} {as bs : List Addr} {ds : List PyData} (ra : Reads s.heap a (.tuple ds) as) (rb : Reads s.heap b (.tuple ds) bs) (hx : SeqAt.shaped (.tuple ds) = true) (hu : A.units + 64 < cLine)
    (h : Q (.bool false) s) : wpAny (model prog w) A (compareOp .NotEq a b) Q E s := by
  refine ne_dataH ra rb hx hx hu ?_
  rw [SeqAt.eqv_refl _ (by unfold SeqAt.shaped at hx; simp at hx; exact hx.1)]
  exact h
theorem shaped_two {a b : PyData} (ha : flatD a) (hb : flatD b) : SeqAt.shaped (.tuple [a, b]) = true := by
  simp [SeqAt.shaped, PyData.canLay0, PyData.canLayAll0, PyData.depth, PyData.depthAll, ha.1, ha.2, hb.1, hb.2]
theorem flat_str {y : Str} (h : PyData.strOk y = true) : flatD (.str y) := by simp [flatD, PyData.canLay0, PyData.depth, h]
theorem flat_int {n : Int} : flatD (.int n) := by simp [flatD, PyData.canLay0, PyData.depth]
theorem flat_none : flatD .none := by simp [flatD, PyData.canLay0, PyData.depth]
structure DrSt where
  sp : Nat
  z : Int
  t : Tok
  z2 : Int
  t2 : Tok
  es : List DictEntry
  go : Obj
noncomputable def DrInv (w : World) (ov rv iv : Value) (dl : Addr) (n : Nat) (c : DrSt) : Prop :=
  WD w ov rv iv (.ref dl) (.int c.z2 c.t2) c.es ∧ c.z = (c.sp : Int) ∧ c.z2 = (c.sp : Int) ∧ c.sp ≤ n ∧ ∃ v, c.go.data = .cell v
noncomputable def OkG (w : World) (p : Program) (loose : List Str) (mean : ExcName → Option Value) (mg mb : Str → Option Value) (A : Around) (base : Heap) (outer : List Env) (g₀ g : Heap) : Prop :=
  KtsTurn (outer.filterMap (·.frame)) g₀ g ∧ Below A base outer g ∧ (hd.heap_1 w.params).In g ∧ Top p loose mean mg mb g ∧ KtsDicts (outer.filterMap (·.frame)) g
theorem nameHead {h₀ h : Heap} {L T : Addr} {o : Obj} {l : List (Addr × Obj)} (_N : News h₀ L h ((T, o) :: l)) {P : Prop} (k : ∀ b : Addr, b = T → P) : P := k T rfl
theorem pick2 {h₀ h : Heap} {L : Addr} {a b q : Addr × Obj} {l : List (Addr × Obj)} (N : News h₀ L h (a :: b :: l)) (m : q ∈ l) : News h₀ L h (a :: b :: q :: l) := fun p hp => by
  rcases List.mem_cons.mp hp with rfl | hp
  · exact N _ (.head _)
  · rcases List.mem_cons.mp hp with rfl | hp
    · exact N _ (.tail _ (.head _))
    · rcases List.mem_cons.mp hp with rfl | hp
      · exact N _ (.tail _ (.tail _ m))
      · exact N p (.tail _ (.tail _ hp))
noncomputable def lnF (n i : Nat) : Int := if i * 3 / n = 0 then 10 else if i * 3 / n = 1 then 20 else 30
theorem lnF_mono {n i j : Nat} (h : i ≤ j) : lnF n i ≤ lnF n j := by
  have := Nat.div_le_div_right (c := n) (Nat.mul_le_mul_right 3 h)
  unfold lnF
  generalize i * 3 / n = u at *
  generalize j * 3 / n = v at *
  split <;> split <;> (try split) <;> (try split) <;> (first | lia | omega)
theorem TupsIn.snoc {news : List (Addr × Obj)} {vs : List Value} {ds : List (Int × Str)} {T : Addr} {a : Int} {b : Str} {t u : Tok} (h : TupsIn news vs ds) : TupsIn ((T, tupO [.int a t, .str b u]) :: news) (vs ++ [.ref T]) (ds ++ [(a, b)]) := by
  refine ⟨by simp [h.1], fun i d hd => ?_⟩
  by_cases hi : i < ds.length
  · rw [List.getElem?_append_left hi] at hd
    obtain ⟨T2, t2, u2, e1, e2⟩ := h.2 i d hd
    exact ⟨T2, t2, u2, by rw [List.getElem?_append_left (by rw [h.1]; exact hi)]; exact e1, .tail _ e2⟩
  · rw [List.getElem?_append_right (by (first | lia | omega))] at hd
    have hz : i - ds.length = 0 := by
      have := (List.getElem?_eq_some_iff.mp hd).1
      simp at this
      (first | lia | omega)
    rw [hz] at hd
    obtain rfl : (a, b) = d := Option.some.inj hd
    exact ⟨T, t, u, by rw [List.getElem?_append_right (by rw [h.1]; (first | lia | omega)), show i - vs.length = 0 by rw [h.1]; exact hz]; rfl, .head _⟩
noncomputable def DsOk (n : Nat) (ds : List (Int × Str)) : Prop := ∀ j d, ds[j]? = some d → d.1 = lnF n j ∧ d.2.length ≤ 20 ∧ PyData.strOk d.2 = true
theorem DsOk.snoc {n : Nat} {ds : List (Int × Str)} {a : Int} {b : Str} (h : DsOk n ds) (ha : a = lnF n ds.length) (hb : b.length ≤ 20) (ho : PyData.strOk b = true) : DsOk n (ds ++ [(a, b)]) := by
  intro j d hd
  by_cases hi : j < ds.length
  · rw [List.getElem?_append_left hi] at hd
    exact h j d hd
  · rw [List.getElem?_append_right (by (first | lia | omega))] at hd
    have hz : j - ds.length = 0 := by
      have := (List.getElem?_eq_some_iff.mp hd).1
      simp at this
      (first | lia | omega)
    rw [hz] at hd
    obtain rfl : (a, b) = d := Option.some.inj hd
    exact ⟨by rw [ha, show j = ds.length by (first | lia | omega)], hb, ho⟩
theorem filt_restF : ∀ {ds : List (Int × Str)} (n : Int), (∀ (i j : Nat) d e, i ≤ j → ds[i]? = some d → ds[j]? = some e → d.1 ≤ e.1) → (ds.filter fun d => decide (d.1 < n)).length = restF ds n
  | [], n, _ => rfl
  | d :: ds, n, h => by
    unfold restF
    by_cases hd : d.1 < n
    · rw [List.filter_cons_of_pos (by simpa using hd), List.takeWhile_cons_of_pos (by simpa using hd), List.length_cons, List.length_cons, filt_restF n fun i j a b hij ha hb => h (i + 1) (j + 1) a b (by (first | lia | omega)) ha hb]
      rfl
    · rw [List.filter_cons_of_neg (by simpa using hd), List.takeWhile_cons_of_neg (by simpa using hd)]
      rw [List.filter_eq_nil_iff.mpr fun e he => by
        obtain ⟨j, hj⟩ := List.mem_iff_getElem?.mp he
        have := h 0 (j + 1) d e (by (first | lia | omega)) rfl hj
        simp
        (first | lia | omega)]
theorem DsOk.sorted {n : Nat} {ds : List (Int × Str)} (h : DsOk n ds) : ∀ (i j : Nat) d e, i ≤ j → ds[i]? = some d → ds[j]? = some e → d.1 ≤ e.1 := fun i j d e hij hd he => by
  rw [(h i d hd).1, (h j e he).1]
  exact lnF_mono hij
theorem filt_snoc {ds : List (Int × Str)} {n : Int} {i : Nat} {d : Int × Str} (hd : ds[i]? = some d) : ((ds.take (i + 1)).filter fun d => decide (d.1 < n)).length = ((ds.take i).filter fun d => decide (d.1 < n)).length + if d.1 < n then 1 else 0 := by
  rw [List.take_add_one, List.filter_append, List.length_append, hd]
  congr 1
  by_cases h : d.1 < n <;> simp [h]
section
variable {prog : Program} {w : World} {A : Around} {E : Value → Shared → Prop} {s : Shared} {h₀ : Heap} {L : Addr} {m : Str → Option Value} {env : Env}
theorem gs_pairs {elt : PySem.Expr} {ifs : List PySem.Expr} {x x₂ : Str} {px px₂ tp : Pos} {tk} {scope : Scope} {cl : List (Str × Addr)} {Fin : Shared → Addr → List Value → List (Addr × Obj) → Prop} {l : Addr} {vs : List Value} {ds : List (Int × Str)} {tups : List (Addr × Obj)} {news : List (Addr × Obj)} (J : Nat → List Value → Prop)
    (hti : TupsIn tups vs ds) (hh : A.handled = none) (F : Fr h₀ L s.heap m) (N : News h₀ L s.heap news) (hl : s.heap.IsList l vs.toArray) (hlL : l ≠ L) (hsz : ds.length ≤ sizeLine) (htn : ∀ p ∈ tups, p ∈ news)
    (hkind : scope.kind = .function) (hx : scope.names.lookup x = some .local) (hx₂ : scope.names.lookup x₂ = some .local) (hxx : x ≠ x₂) (hj : J 0 [])
    (turn : ∀ s', (∃ h, s' = { s with heap := h }) → GcTurn prog w A h₀ L m elt ifs (fun C => compEnvC scope cl C env) (fun i m₂ => ∃ v0 v1, (∃ d t u, ds[i]? = some d ∧ v0 = .int d.1 t ∧ v1 = .str d.2 u) ∧ m₂ x = some v0 ∧ m₂ x₂ = some v1) (fun i ys nx => nx = news ∧ J i ys) ds.length s')
    (fin : ∀ s', (∃ h, s' = { s with heap := h }) → ∀ D ys, AllLt D news → J ds.length ys → Fin s' D ys news) :
    wpAny (model prog w) A (pyIter (.ref l)) (GcAt prog w A h₀ L m env elt (.Tuple [.Name x px, .Name x₂ px₂] tk tp) ifs scope cl Fin) E s := by
  have hn : vs.toArray.size = ds.length := by rw [List.size_toArray, hti.1]
  rw [← hn] at hsz turn fin
  refine gs_tups (tups := tups) (P2 := fun i v0 v1 => ∃ d t u, ds[i]? = some d ∧ v0 = .int d.1 t ∧ v1 = .str d.2 u) (fun i ys nx => nx = news ∧ J i ys) hh F N hl hlL hsz htn ?_ hkind hx hx₂ hxx ⟨rfl, hj⟩ turn ?_
  · intro i v hv
    have hi : i < ds.length := by
      rw [← hn]
      exact (Array.getElem?_eq_some_iff.mp hv).1
    obtain ⟨T, t, u, e1, e2⟩ := hti.2 i _ (List.getElem?_eq_getElem hi)
    rw [List.getElem?_toArray, e1] at hv
    exact ⟨T, _, _, _, (Option.some.inj hv).symm, e2, _, t, u, List.getElem?_eq_getElem hi, rfl, rfl⟩
  · intro s' hs D ys nx _ h2 hJ
    obtain ⟨rfl, hJ⟩ := hJ
    exact fin s' hs D ys (allLt_of h2) hJ
end
noncomputable def DatJ (n : Nat) (news0 : List (Addr × Obj)) (i : Nat) (ys : List Value) (nx : List (Addr × Obj)) : Prop :=
  ∃ tups ds, nx = tups ++ news0 ∧ TupsIn tups ys ds ∧ ds.length = i ∧ DsOk n ds ∧ ∀ p ∈ tups, ∀ q ∈ news0, @LT.lt Nat _ q.1 p.1
theorem ln_item {n i : Nat} {t1 t2 t3 : Tok} (h : i < n) : ∃ t, [Value.int 10 t1, Value.int 20 t2, Value.int 30 t3][(Int.fdiv ((i : Int) * 3) (n : Int)).toNat]? = some (.int (lnF n i) t) := by
  have e : (Int.fdiv ((i : Int) * 3) (n : Int)).toNat = i * 3 / n := by
    rw [Int.fdiv_eq_ediv_of_nonneg _ (by (first | lia | omega))]
    have : (i : Int) * 3 / (n : Int) = ((i * 3 / n : Nat) : Int) := by simp
    rw [this, Int.toNat_natCast]
  rw [e]
  have h3 : i * 3 / n < 3 := Nat.div_lt_of_lt_mul (by (first | lia | omega))
  unfold lnF
  rcases (by (first | lia | omega) : i * 3 / n = 0 ∨ i * 3 / n = 1 ∨ i * 3 / n = 2) with e | e | e
  · rw [e]; exact ⟨_, rfl⟩
  · rw [e]; exact ⟨_, rfl⟩
  · rw [e]; exact ⟨_, rfl⟩
theorem ln_nonneg {n i : Nat} : 0 ≤ Int.fdiv ((i : Int) * 3) (n : Int) := by
  rw [Int.fdiv_eq_ediv_of_nonneg _ (by (first | lia | omega))]
  exact Int.ediv_nonneg (by (first | lia | omega)) (by (first | lia | omega))
theorem ln_small {n i : Nat} (h : i < n) (h10 : n ≤ 10) : Int.fdiv ((i : Int) * 3) (n : Int) < 2 ^ 63 := by
  rw [Int.fdiv_eq_ediv_of_nonneg _ (by (first | lia | omega))]
  have : (i : Int) * 3 / (n : Int) ≤ (i : Int) * 3 := Int.ediv_le_self _ (by (first | lia | omega))
  (first | lia | omega)
theorem DatJ.fin {h₀ : Heap} {L C D T : Addr} {oC : Obj} {m : Str → Option Value} {q1 q2 q3 q4 : Addr × Obj} {tups news0 own : List (Addr × Obj)} {ys : List Value} {ds : List (Int × Str)} {n i : Nat} {b : Str} {t u : Tok} {s₁ s₂ : Shared}
    (hs : ∃ tk, s₂ = { s₁ with heap := s₂.heap, toks := tk }) (F : Fr h₀ L s₂.heap m) (N : News h₀ L s₂.heap ((T, tupO [.int (lnF n i) t, .str b u]) :: (C, oC) :: (D, lst ys) :: q1 :: q2 :: q3 :: q4 :: (tups ++ news0 ++ own)))
    (hq : AllLt T ((C, oC) :: (D, lst ys) :: q1 :: q2 :: q3 :: q4 :: (tups ++ news0 ++ own))) (hti : TupsIn tups ys ds) (hdl : ds.length = i) (hok : DsOk n ds) (hlt : ∀ p ∈ tups, ∀ q ∈ news0, @LT.lt Nat _ q.1 p.1) (hb : b.length ≤ 20) (hbo : PyData.strOk b = true) :
    GcEnd h₀ L m s₁ C oC D ys (tups ++ news0) own (DatJ n news0 (i + 1) (ys ++ [.ref T])) s₂ := by
  obtain ⟨tk, hs⟩ := hs
  have hall := newLt N hq
  refine ⟨s₂.heap, tk, (T, tupO [.int (lnF n i) t, .str b u]) :: (tups ++ news0), hs, F, News.sub N ?_, ?_, (T, tupO [.int (lnF n i) t, .str b u]) :: tups, ds ++ [(lnF n i, b)], rfl, hti.snoc, by rw [List.length_append, hdl]; rfl, hok.snoc (by rw [hdl]) hb hbo, ?_⟩
  · intro p hp
    rcases List.mem_cons.mp hp with rfl | hp
    · exact .tail _ (.head _)
    · rcases List.mem_cons.mp hp with rfl | hp
      · exact .tail _ (.tail _ (.head _))
      · rcases List.mem_cons.mp hp with rfl | hp
        · exact .head _
        · exact .tail _ (.tail _ (.tail _ (.tail _ (.tail _ (.tail _ (.tail _ hp))))))
  · intro p hp
    rcases List.mem_cons.mp hp with rfl | hp
    · refine .inr fun q hq => hall q ?_
      rcases List.mem_cons.mp hq with rfl | hq
      · exact .head _
      · rcases List.mem_cons.mp hq with rfl | hq
        · exact .tail _ (.head _)
        · exact .tail _ (.tail _ (.tail _ (.tail _ (.tail _ (.tail _ hq)))))
    · exact .inl ⟨p, hp, rfl⟩
  · intro p hp q hq
    rcases List.mem_cons.mp hp with rfl | hp
    · exact hall q (.tail _ (.tail _ (.tail _ (.tail _ (.tail _ (.tail _ (List.mem_append_left _ (List.mem_append_right _ hq))))))))
    · exact hlt p hp q hq
local macro_rules | `(tactic| k_all) => `(tactic| first | assumption | (refine List.forall_mem_cons.mpr ⟨by k_ne, ?_⟩; k_all))

local macro_rules | `(tactic| walk_at "call ref nil") => `(tactic| (refine Stop.out ?_))
local macro_rules | `(tactic| walk_at "exec Assign cons ListComp") => `(tactic| (refine Stop.out ?_))
local macro_rules | `(tactic| walk_at "eval ListComp") => `(tactic| (refine Stop.out ?_))
local macro_rules | `(tactic| walk_at "subscriptTail Name BinOp ref int") => `(tactic| (first | ((rename StopOff => x9); refine Stop.out ?_) | ((with_reducible show wpAny _ _ (subscriptTail (PySem.Expr.Name (Str.ofString "lines") _) _ _ _) _ _ _); refine Stop.out ?_)))
local macro_rules | `(tactic| walk_at "eval Subscript List BinOp") => `(tactic| ((fail_if_success (rename StopOff => x9)); refine Stop.out ?_))
local macro_rules | `(tactic| walk_at "eval Subscript List Name") => `(tactic| ((fail_if_success (rename StopOff => x9)); refine Stop.out ?_))
local macro_rules | `(tactic| walk_at "subscriptTail Name Name ref int") => `(tactic| (first | ((rename StopOff => x9); refine Stop.out ?_) | ((with_reducible show wpAny _ _ (subscriptTail _ (PySem.Expr.Name (Str.ofString "spot") _) _ _) _ _ _); refine Stop.out ?_)))
local macro_rules | `(tactic| walk_at "noteFrame ref") => `(tactic| (refine Stop.out ?_))
local macro_rules | `(tactic| walk_at "getAttr ref") => `(tactic| ((with_reducible show wpAny _ _ (getAttr _ (Str.ofString "code") _) _ _ _); refine Stop.out ?_))
local macro_rules | `(tactic| walk_at "compareOp NotEq ref ref") => `(tactic| (refine Stop.out ?_))
local macro_rules | `(tactic| walk_at "bind") => `(tactic| (k_here; (refine' name_goesX ?F ?N ?_; (case F => k_asm); (case N => k_asm); intro _ _ _ _)))
local macro_rules | `(tactic| walk_at "FgPost") => `(tactic| dsimp only [FgPost])
local macro_rules | `(tactic| walk_at "exec Try cons cons nil nil") => `(tactic| (k_here; refine wpAny_Try_except ?_))
local macro_rules | `(tactic| walk_at "subscriptTail Attribute Name ref int") => `(tactic| (refine Stop.out ?_))
local macro_rules | `(tactic| walk_at "exec For Name BinOp cons") => `(tactic| (refine Stop.out ?_))
local macro_rules | `(tactic| walk_at "exec For Name BinOp cons nil") => `(tactic| (refine Stop.out ?_))
set_option maxHeartbeats 8000000 in
theorem law_data_c (w : World) (sa : Addr) (vs : List Value) (ns : List Int) (nn : Nat) (hv : IntsAre vs ns) (h0 : ∀ n ∈ ns, 0 ≤ n) (hl : 2 ≤ ns.length) (hl2 : ns.length ≤ 10) (news : List (Addr × Obj)) :
    CtrL w 210 20 2048 [.ref sa] ((sa, W.listOf vs.toArray nn) :: news) (fun h₀ L m s Q E => Ret h₀ L m s Q ((sa, W.listOf vs.toArray nn) :: news) (fun _ => .bool true)) := by
  unfold CtrL
  k_fill
  intro p loose mean mg mb dp un gd cn cs a ccd A₀ h₀ L m s Q E B F X N T hk hdp hu hret
  have hsz : (vs.toArray.size : Int) = ((ns.length : Nat) : Int) := by rw [List.size_toArray, hv.length]
  refine wpAny_call ?_
  k_dflt (refine' code_defSC0 ?k1 ?k2 ?k3 ?k4 ?k5 ?kA ?k6 ?k7 ?k8 ?k9 ?kB ?kD ?_ ?cK ?c2 ?c3 ?c4; (case kA => exact rfl); (case k2 => k_asm); (case k1 => k_asm); (case k3 => k_asm); (case k4 => k_asm); (case k5 => k_asm); (case k6 => k_is); (case k7 => k_is); (case k8 => ktr_room); (case k9 => exact BindsTo.of_eq rfl); (case kB => exact rfl); (case kD => decide +kernel); (case cK => assumption); (case c2 => exact rfl); (case c3 => exact rfl); (case c4 => exact rfl); k_whole; intro g' L' h' tk' cells' FG' F' N' Y' B' X' T' D' l1; (try k_lt l1); k_cells Y'; (try simp only [List.cons_append, List.nil_append] at N'); (try dsimp only); (try (with_reducible show wpAny _ _ _ _ _ _)); (try k_fold))
  refine (let aw : PySem.Around := _; let ev : PySem.Env := _; let qe : PySem.Flow → PySem.Shared → Prop := _; let ee : PySem.Value → PySem.Shared → Prop := _; (?_ : PySem.wpAny _ aw (PySem.execs _ ev) qe ee _))
  (try (with_reducible show wpAny _ _ _ _ _ _)); (try k_fold); (repeat' (first | ((fail_if_success (fail_if_success (with_reducible show wpAny _ _ (call (Value.ref _) (_ :: _)) _ _ _))); (k_here; k_dflt (first | (refine' law_value_c _ _ _ _ _ ?zqhx0 ?zqho0 _ _ _ _ _ _ _ _ _ _ _ _ _ _ _ _ _ _ _ _ _ _ _ ?zqk1 ?zqk2 ?zqk3 ?zqk4 ?zqk5 ?zqkK ?zqkd ?zqku ?_; (case zqk1 => k_asm); (case zqk2 => k_asm); (case zqk3 => k_asm); (case zqk4 => k_asm); (case zqk5 => k_asm); (case zqkK => first | exact rfl | assumption); (case zqhx0 => assumption); (case zqho0 => assumption); (case zqkd => ktr_room); (case zqku => ktr_units); refine ⟨fun hvf hkt => ?zqvn, fun hkt => ?zqvt, fun n9 hvf hkt => ?zqvi⟩ <;> (intro t9 h9 tk9 r9 e9 F9 N9; subst e9; (try dsimp only); (try k_fold))) | (refine Stop.out ?_)))) | ((fail_if_success (fail_if_success (with_reducible show wpAny _ _ (call (Value.builtin "len") (_ :: _)) _ _ _))); (k_here; (with_reducible show wpAny _ _ (call (Value.builtin "len") [Value.ref _]) _ _ _); k_dflt (refine' kun_lenL (News.isList ?zqa ?zqa2) ?zqb ?zqc ?_; (case zqa => k_asm); (case zqa2 => first | exact .head _ | exact .tail _ (.head _) | exact .tail _ (.tail _ (.head _)) | exact .tail _ (.tail _ (.tail _ (.head _))) | exact .tail _ (.tail _ (.tail _ (.tail _ (.head _))))); (case zqb => assumption); (case zqc => first | exact q9 ‹_› | omega); k_whole))) | (k_unfold; (try dsimp only)) | (k_end; wrow_close) | walk1 | (dsimp only; first | walk1 | (fail_if_success (fail_if_success (with_reducible show wpAny _ _ (call (Value.builtin "len") (_ :: _)) _ _ _))) | (fail_if_success (fail_if_success (with_reducible show wpAny _ _ (call (Value.ref _) (_ :: _)) _ _ _)))) | (leave1; walk_say "STEP leave1"; try dsimp only) | fail "no step"))
  refine Stop.mk ?_
  rename (News _ _ _ _) => lN
  refine name3 lN ?_
  intro oG oL oS e1 e2 e3
  subst e1 e2 e3
  have dS : oS.data = .cell (some (.ref sa)) := by k_dflt assumption
  have dL : oL.data = .cell none := by k_dflt assumption
  have dG : oG.data = .cell none := by k_dflt assumption
  have hsL : @LT.lt Nat _ sa L' := l1.1
  have hnL : ∀ p ∈ news, @LT.lt Nat _ p.1 L' := allLt_mem l1.2
  have hn1 : ∀ p ∈ news, p.1 ≠ L' + 1 := fun p hp => Nat.ne_of_lt (Nat.lt_succ_of_lt (hnL p hp))
  have hn2 : ∀ p ∈ news, p.1 ≠ L' + 1 + 1 := fun p hp => Nat.ne_of_lt (Nat.lt_succ_of_lt (Nat.lt_succ_of_lt (hnL p hp)))
  have hn3 : ∀ p ∈ news, p.1 ≠ L' + 1 + 1 + 1 := fun p hp => Nat.ne_of_lt (Nat.lt_succ_of_lt (Nat.lt_succ_of_lt (Nat.lt_succ_of_lt (hnL p hp))))
  have hsa1 : @Ne Nat sa (L' + 1) := by omega
  have hsa2 : @Ne Nat sa (L' + 1 + 1) := by omega
  have hsa3 : @Ne Nat sa (L' + 1 + 1 + 1) := by omega
  k_dflt (refine' world_c _ _ _ _ _ _ _ _ _ _ _ _ _ _ _ _ _ _ _ _ _ _ _ _ ?k1 ?k2 ?k3 ?k4 ?k5 ?kK ?kd ?ku ?_; (case k1 => k_asm); (case k2 => k_asm); (case k3 => k_asm); (case k4 => k_asm); (case k5 => k_asm); (case kK => first | exact rfl | assumption); (case kd => ktr_room); (case ku => ktr_units))
  intro x dx oa ia da es0 no0 t0 hw0 tkw0 rv0 er0 hWD0 wl1 wl2 wl3 wl4 wl5 FW NW
  subst er0
  obtain ⟨T0, U0, rfl⟩ := hWD0.ex
  dsimp only [AllLt] at l1 wl1 wl2 wl3 wl4 wl5
  (try dsimp only at NW)
  (try dsimp only)
  (try (with_reducible show wpAny _ _ _ _ _ _)); (try k_fold)
  clear lN
  (try (with_reducible show wpAny _ _ _ _ _ _)); (try k_fold); (repeat' (first | ((fail_if_success (fail_if_success (with_reducible show wpAny _ _ (call (Value.ref _) (_ :: _)) _ _ _))); (k_here; k_dflt (first | (refine' law_value_c _ _ _ _ _ ?zqhx0 ?zqho0 _ _ _ _ _ _ _ _ _ _ _ _ _ _ _ _ _ _ _ _ _ _ _ ?zqk1 ?zqk2 ?zqk3 ?zqk4 ?zqk5 ?zqkK ?zqkd ?zqku ?_; (case zqk1 => k_asm); (case zqk2 => k_asm); (case zqk3 => k_asm); (case zqk4 => k_asm); (case zqk5 => k_asm); (case zqkK => first | exact rfl | assumption); (case zqhx0 => assumption); (case zqho0 => assumption); (case zqkd => ktr_room); (case zqku => ktr_units); refine ⟨fun hvf hkt => ?zqvn, fun hkt => ?zqvt, fun n9 hvf hkt => ?zqvi⟩ <;> (intro t9 h9 tk9 r9 e9 F9 N9; subst e9; (try dsimp only); (try k_fold))) | (refine Stop.out ?_)))) | ((fail_if_success (fail_if_success (with_reducible show wpAny _ _ (call (Value.builtin "len") (_ :: _)) _ _ _))); (k_here; (with_reducible show wpAny _ _ (call (Value.builtin "len") [Value.ref _]) _ _ _); k_dflt (refine' kun_lenL (News.isList ?zqa ?zqa2) ?zqb ?zqc ?_; (case zqa => k_asm); (case zqa2 => first | exact .head _ | exact .tail _ (.head _) | exact .tail _ (.tail _ (.head _)) | exact .tail _ (.tail _ (.tail _ (.head _))) | exact .tail _ (.tail _ (.tail _ (.tail _ (.head _))))); (case zqb => assumption); (case zqc => first | exact q9 ‹_› | omega); k_whole))) | (k_unfold; (try dsimp only)) | (k_end; wrow_close) | walk1 | (dsimp only; first | walk1 | (fail_if_success (fail_if_success (with_reducible show wpAny _ _ (call (Value.builtin "len") (_ :: _)) _ _ _))) | (fail_if_success (fail_if_success (with_reducible show wpAny _ _ (call (Value.ref _) (_ :: _)) _ _ _)))) | (leave1; walk_say "STEP leave1"; try dsimp only) | fail "no step"))
  refine Stop.mk ?_
  rename (News _ _ _ _) => lN
  have N1 := ndrop (a := []) (b := [_]) lN
  simp only [List.nil_append] at N1
  clear lN
  rename (@LT.lt Nat _ da _ ∧ _) => hq1
  refine nameLt hq1 ?_
  intro la e
  subst e
  rename (Obj.data _ = .cell (some (.ref la))) => dL2
  refine nameObj dL2 ?_
  intro oL2 e
  subst e
  with_reducible refine plainObj_wpAny_Assign_Attribute ?_ ?_
  rotate_left
  with_unfolding_all rfl
  (try (with_reducible show wpAny _ _ _ _ _ _)); (try k_fold); (repeat' (first | ((fail_if_success (fail_if_success (with_reducible show wpAny _ _ (call (Value.ref _) (_ :: _)) _ _ _))); (k_here; k_dflt (first | (refine' law_value_c _ _ _ _ _ ?zqhx0 ?zqho0 _ _ _ _ _ _ _ _ _ _ _ _ _ _ _ _ _ _ _ _ _ _ _ ?zqk1 ?zqk2 ?zqk3 ?zqk4 ?zqk5 ?zqkK ?zqkd ?zqku ?_; (case zqk1 => k_asm); (case zqk2 => k_asm); (case zqk3 => k_asm); (case zqk4 => k_asm); (case zqk5 => k_asm); (case zqkK => first | exact rfl | assumption); (case zqhx0 => assumption); (case zqho0 => assumption); (case zqkd => ktr_room); (case zqku => ktr_units); refine ⟨fun hvf hkt => ?zqvn, fun hkt => ?zqvt, fun n9 hvf hkt => ?zqvi⟩ <;> (intro t9 h9 tk9 r9 e9 F9 N9; subst e9; (try dsimp only); (try k_fold))) | (refine Stop.out ?_)))) | ((fail_if_success (fail_if_success (with_reducible show wpAny _ _ (call (Value.builtin "len") (_ :: _)) _ _ _))); (k_here; (with_reducible show wpAny _ _ (call (Value.builtin "len") [Value.ref _]) _ _ _); k_dflt (refine' kun_lenL (News.isList ?zqa ?zqa2) ?zqb ?zqc ?_; (case zqa => k_asm); (case zqa2 => first | exact .head _ | exact .tail _ (.head _) | exact .tail _ (.tail _ (.head _)) | exact .tail _ (.tail _ (.tail _ (.head _))) | exact .tail _ (.tail _ (.tail _ (.tail _ (.head _))))); (case zqb => assumption); (case zqc => first | exact q9 ‹_› | omega); k_whole))) | (k_unfold; (try dsimp only)) | (k_end; wrow_close) | walk1 | (dsimp only; first | walk1 | (fail_if_success (fail_if_success (with_reducible show wpAny _ _ (call (Value.builtin "len") (_ :: _)) _ _ _))) | (fail_if_success (fail_if_success (with_reducible show wpAny _ _ (call (Value.ref _) (_ :: _)) _ _ _)))) | (leave1; walk_say "STEP leave1"; try dsimp only) | fail "no step"))
  refine Stop.mk ?_
  rename (Fr _ _ _ _) => lF
  refine gc_eval lF (by with_unfolding_all rfl) (by decide) rfl (by decide) ?_
  (try (with_reducible show wpAny _ _ _ _ _ _)); (try k_fold); (repeat' (first | ((fail_if_success (fail_if_success (with_reducible show wpAny _ _ (call (Value.ref _) (_ :: _)) _ _ _))); (k_here; k_dflt (first | (refine' law_value_c _ _ _ _ _ ?zqhx0 ?zqho0 _ _ _ _ _ _ _ _ _ _ _ _ _ _ _ _ _ _ _ _ _ _ _ ?zqk1 ?zqk2 ?zqk3 ?zqk4 ?zqk5 ?zqkK ?zqkd ?zqku ?_; (case zqk1 => k_asm); (case zqk2 => k_asm); (case zqk3 => k_asm); (case zqk4 => k_asm); (case zqk5 => k_asm); (case zqkK => first | exact rfl | assumption); (case zqhx0 => assumption); (case zqho0 => assumption); (case zqkd => ktr_room); (case zqku => ktr_units); refine ⟨fun hvf hkt => ?zqvn, fun hkt => ?zqvt, fun n9 hvf hkt => ?zqvi⟩ <;> (intro t9 h9 tk9 r9 e9 F9 N9; subst e9; (try dsimp only); (try k_fold))) | (refine Stop.out ?_)))) | ((fail_if_success (fail_if_success (with_reducible show wpAny _ _ (call (Value.builtin "len") (_ :: _)) _ _ _))); (k_here; (with_reducible show wpAny _ _ (call (Value.builtin "len") [Value.ref _]) _ _ _); k_dflt (refine' kun_lenL (News.isList ?zqa ?zqa2) ?zqb ?zqc ?_; (case zqa => k_asm); (case zqa2 => first | exact .head _ | exact .tail _ (.head _) | exact .tail _ (.tail _ (.head _)) | exact .tail _ (.tail _ (.tail _ (.head _))) | exact .tail _ (.tail _ (.tail _ (.tail _ (.head _))))); (case zqb => assumption); (case zqc => first | exact q9 ‹_› | omega); k_whole))) | (k_unfold; (try dsimp only)) | (k_end; wrow_close) | walk1 | (dsimp only; first | walk1 | (fail_if_success (fail_if_success (with_reducible show wpAny _ _ (call (Value.builtin "len") (_ :: _)) _ _ _))) | (fail_if_success (fail_if_success (with_reducible show wpAny _ _ (call (Value.ref _) (_ :: _)) _ _ _)))) | (leave1; walk_say "STEP leave1"; try dsimp only) | fail "no step"))
  rename (Fr _ _ _ _) => lF
  rename (News _ _ _ _) => lN
  refine genNews lN ?_
  clear lN
  intro news0 hn0 lN
  have mla : (la, W.listOf #[Value.int 10 tkw0, Value.int 20 (tkw0 + 1), Value.int 30 (tkw0 + 1 + 1)] 0) ∈ news0 := hn0 ▸ .head _
  have mcL : (L' + 1 + 1, oL2) ∈ news0 := hn0 ▸ .tail _ (.tail _ (.tail _ (.tail _ (.tail _ (.tail _ (.tail _ (.head _)))))))
  have mcS : (L' + 1, oS) ∈ news0 := hn0 ▸ .tail _ (.tail _ (.tail _ (.tail _ (.tail _ (.tail _ (.tail _ (.tail _ (.head _))))))))
  have msa : (sa, W.listOf vs.toArray nn) ∈ news0 := hn0 ▸ .tail _ (.tail _ (.tail _ (.tail _ (.tail _ (.tail _ (.tail _ (.tail _ (.tail _ (.head _)))))))))
  refine' gs_enum (DatJ ns.length news0) ?hh ?F ?N ?m1 ?hI ?hsz ?hk ?hx ?hx2 ?hxx ?hj ?turn ?fin
  case F => exact lF
  case N => exact lN
  case hh => exact rfl
  case m1 => exact msa
  case hI => exact hv
  case hsz => rw [sizeLine_eq]; exact Nat.le_trans hl2 (by decide)
  case hk => exact rfl
  case hx => exact rfl
  case hx2 => exact rfl
  case hxx => decide
  case hj => exact ⟨[], [], rfl, ⟨rfl, by intro i d hd; simp at hd⟩, rfl, by (intro j d hd; simp at hd), fun p hp => absurd hp List.not_mem_nil⟩
  case turn =>
    rintro s' ⟨hp', rfl⟩
    intro i ys nx C oC D m₂ own h tk E' hi hPP hJ hoC F1 N1
    obtain ⟨tups, ds, rfl, hti, hdl, hok, hlt⟩ := hJ
    obtain ⟨_, _, ⟨k, tk1, tk2, hk9, rfl, rfl⟩, hm1, hm2⟩ := hPP
    clear lF lN
    have hm : ∀ {q : Addr × Obj}, q ∈ news0 → q ∈ tups ++ news0 ++ own := fun hq => List.mem_append_left _ (List.mem_append_right _ hq)
    have N2 : News g' L' h ((C, oC) :: (D, lst ys) :: (L' + 1 + 1, oL2) :: (L' + 1, oS) :: (la, W.listOf #[Value.int 10 tkw0, Value.int 20 (tkw0 + 1), Value.int 30 (tkw0 + 1 + 1)] 0) :: (sa, W.listOf vs.toArray nn) :: (tups ++ news0 ++ own)) := pick2 (pick2 (pick2 (pick2 N1 (hm msa)) (.tail _ (hm mla))) (.tail _ (.tail _ (hm mcS)))) (.tail _ (.tail _ (.tail _ (hm mcL))))
    clear N1
    dsimp only
    (try (with_reducible show wpAny _ _ _ _ _ _)); (try k_fold)
    (try (with_reducible show wpAny _ _ _ _ _ _)); (try k_fold); (repeat' (first | ((fail_if_success (fail_if_success (with_reducible show wpAny _ _ (call (Value.ref _) (_ :: _)) _ _ _))); (k_here; k_dflt (first | (refine' law_value_c _ _ _ _ _ ?zqhx0 ?zqho0 _ _ _ _ _ _ _ _ _ _ _ _ _ _ _ _ _ _ _ _ _ _ _ ?zqk1 ?zqk2 ?zqk3 ?zqk4 ?zqk5 ?zqkK ?zqkd ?zqku ?_; (case zqk1 => k_asm); (case zqk2 => k_asm); (case zqk3 => k_asm); (case zqk4 => k_asm); (case zqk5 => k_asm); (case zqkK => first | exact rfl | assumption); (case zqhx0 => assumption); (case zqho0 => assumption); (case zqkd => ktr_room); (case zqku => ktr_units); refine ⟨fun hvf hkt => ?zqvn, fun hkt => ?zqvt, fun n9 hvf hkt => ?zqvi⟩ <;> (intro t9 h9 tk9 r9 e9 F9 N9; subst e9; (try dsimp only); (try k_fold))) | (refine Stop.out ?_)))) | ((fail_if_success (fail_if_success (with_reducible show wpAny _ _ (call (Value.builtin "len") (_ :: _)) _ _ _))); (k_here; (with_reducible show wpAny _ _ (call (Value.builtin "len") [Value.ref _]) _ _ _); k_dflt (refine' kun_lenL (News.isList ?zqa ?zqa2) ?zqb ?zqc ?_; (case zqa => k_asm); (case zqa2 => first | exact .head _ | exact .tail _ (.head _) | exact .tail _ (.tail _ (.head _)) | exact .tail _ (.tail _ (.tail _ (.head _))) | exact .tail _ (.tail _ (.tail _ (.tail _ (.head _))))); (case zqb => assumption); (case zqc => first | exact q9 ‹_› | omega); k_whole))) | (k_unfold; (try dsimp only)) | (k_end; wrow_close) | walk1 | (dsimp only; first | walk1 | (fail_if_success (fail_if_success (with_reducible show wpAny _ _ (call (Value.builtin "len") (_ :: _)) _ _ _))) | (fail_if_success (fail_if_success (with_reducible show wpAny _ _ (call (Value.ref _) (_ :: _)) _ _ _)))) | (leave1; walk_say "STEP leave1"; try dsimp only) | fail "no step"))
    refine Stop.mk ?_
    rename (News _ _ _ _) => lN2
    obtain ⟨tt, htt⟩ := ln_item (t1 := tkw0) (t2 := tkw0 + 1) (t3 := tkw0 + 1 + 1) hi
    refine' item_gen (News.isList lN2 (.tail _ (.tail _ (.tail _ (.tail _ (.head _)))))) ln_nonneg (ln_small hi hl2) htt ?_
    (try (with_reducible show wpAny _ _ _ _ _ _)); (try k_fold); (repeat' (first | ((fail_if_success (fail_if_success (with_reducible show wpAny _ _ (call (Value.ref _) (_ :: _)) _ _ _))); (k_here; k_dflt (first | (refine' law_value_c _ _ _ _ _ ?zqhx0 ?zqho0 _ _ _ _ _ _ _ _ _ _ _ _ _ _ _ _ _ _ _ _ _ _ _ ?zqk1 ?zqk2 ?zqk3 ?zqk4 ?zqk5 ?zqkK ?zqkd ?zqku ?_; (case zqk1 => k_asm); (case zqk2 => k_asm); (case zqk3 => k_asm); (case zqk4 => k_asm); (case zqk5 => k_asm); (case zqkK => first | exact rfl | assumption); (case zqhx0 => assumption); (case zqho0 => assumption); (case zqkd => ktr_room); (case zqku => ktr_units); refine ⟨fun hvf hkt => ?zqvn, fun hkt => ?zqvt, fun n9 hvf hkt => ?zqvi⟩ <;> (intro t9 h9 tk9 r9 e9 F9 N9; subst e9; (try dsimp only); (try k_fold))) | (refine Stop.out ?_)))) | ((fail_if_success (fail_if_success (with_reducible show wpAny _ _ (call (Value.builtin "len") (_ :: _)) _ _ _))); (k_here; (with_reducible show wpAny _ _ (call (Value.builtin "len") [Value.ref _]) _ _ _); k_dflt (refine' kun_lenL (News.isList ?zqa ?zqa2) ?zqb ?zqc ?_; (case zqa => k_asm); (case zqa2 => first | exact .head _ | exact .tail _ (.head _) | exact .tail _ (.tail _ (.head _)) | exact .tail _ (.tail _ (.tail _ (.head _))) | exact .tail _ (.tail _ (.tail _ (.tail _ (.head _))))); (case zqb => assumption); (case zqc => first | exact q9 ‹_› | omega); k_whole))) | (k_unfold; (try dsimp only)) | (k_end; wrow_close) | walk1 | (dsimp only; first | walk1 | (fail_if_success (fail_if_success (with_reducible show wpAny _ _ (call (Value.builtin "len") (_ :: _)) _ _ _))) | (fail_if_success (fail_if_success (with_reducible show wpAny _ _ (call (Value.ref _) (_ :: _)) _ _ _)))) | (leave1; walk_say "STEP leave1"; try dsimp only) | fail "no step"))
    refine Stop.mk ?_
    rename (Fr _ _ _ _) => lF2
    refine' ev_prompt (fun y v => ∃ t, v = .str y t ∧ y.length ≤ 20 ∧ PyData.strOk y = true) ?F ?N ?prompt ?_
    case F => exact lF2
    case N => exact lN2
    case prompt =>
      have so : StopOff := .mk
      (try (with_reducible show wpAny _ _ _ _ _ _)); (try k_fold); (repeat' (first | ((fail_if_success (fail_if_success (with_reducible show wpAny _ _ (call (Value.ref _) (_ :: _)) _ _ _))); (k_here; k_dflt (first | (refine' law_value_c _ _ _ _ _ ?zqhx0 ?zqho0 _ _ _ _ _ _ _ _ _ _ _ _ _ _ _ _ _ _ _ _ _ _ _ ?zqk1 ?zqk2 ?zqk3 ?zqk4 ?zqk5 ?zqkK ?zqkd ?zqku ?_; (case zqk1 => k_asm); (case zqk2 => k_asm); (case zqk3 => k_asm); (case zqk4 => k_asm); (case zqk5 => k_asm); (case zqkK => first | exact rfl | assumption); (case zqhx0 => assumption); (case zqho0 => assumption); (case zqkd => ktr_room); (case zqku => ktr_units); refine ⟨fun hvf hkt => ?zqvn, fun hkt => ?zqvt, fun n9 hvf hkt => ?zqvi⟩ <;> (intro t9 h9 tk9 r9 e9 F9 N9; subst e9; (try dsimp only); (try k_fold))) | (refine Stop.out ?_)))) | ((fail_if_success (fail_if_success (with_reducible show wpAny _ _ (call (Value.builtin "len") (_ :: _)) _ _ _))); (k_here; (with_reducible show wpAny _ _ (call (Value.builtin "len") [Value.ref _]) _ _ _); k_dflt (refine' kun_lenL (News.isList ?zqa ?zqa2) ?zqb ?zqc ?_; (case zqa => k_asm); (case zqa2 => first | exact .head _ | exact .tail _ (.head _) | exact .tail _ (.tail _ (.head _)) | exact .tail _ (.tail _ (.tail _ (.head _))) | exact .tail _ (.tail _ (.tail _ (.tail _ (.head _))))); (case zqb => assumption); (case zqc => first | exact q9 ‹_› | omega); k_whole))) | (k_unfold; (try dsimp only)) | (k_end; wrow_close) | walk1 | (dsimp only; first | walk1 | (fail_if_success (fail_if_success (with_reducible show wpAny _ _ (call (Value.builtin "len") (_ :: _)) _ _ _))) | (fail_if_success (fail_if_success (with_reducible show wpAny _ _ (call (Value.ref _) (_ :: _)) _ _ _)))) | (leave1; walk_say "STEP leave1"; try dsimp only) | fail "no step"))
      refine Stop.mk ?_
      rename (News _ _ _ _) => lN3
      rcases mod5 k with hm9 | hm9 | hm9 | hm9 | hm9
      all_goals
        rw [hm9]
        (try (rename StopOff => so9; clear so9))
        (try (with_reducible show wpAny _ _ _ _ _ _)); (try k_fold); (repeat' (first | ((fail_if_success (fail_if_success (with_reducible show wpAny _ _ (call (Value.ref _) (_ :: _)) _ _ _))); (k_here; k_dflt (first | (refine' law_value_c _ _ _ _ _ ?zqhx0 ?zqho0 _ _ _ _ _ _ _ _ _ _ _ _ _ _ _ _ _ _ _ _ _ _ _ ?zqk1 ?zqk2 ?zqk3 ?zqk4 ?zqk5 ?zqkK ?zqkd ?zqku ?_; (case zqk1 => k_asm); (case zqk2 => k_asm); (case zqk3 => k_asm); (case zqk4 => k_asm); (case zqk5 => k_asm); (case zqkK => first | exact rfl | assumption); (case zqhx0 => assumption); (case zqho0 => assumption); (case zqkd => ktr_room); (case zqku => ktr_units); refine ⟨fun hvf hkt => ?zqvn, fun hkt => ?zqvt, fun n9 hvf hkt => ?zqvi⟩ <;> (intro t9 h9 tk9 r9 e9 F9 N9; subst e9; (try dsimp only); (try k_fold))) | (refine Stop.out ?_)))) | ((fail_if_success (fail_if_success (with_reducible show wpAny _ _ (call (Value.builtin "len") (_ :: _)) _ _ _))); (k_here; (with_reducible show wpAny _ _ (call (Value.builtin "len") [Value.ref _]) _ _ _); k_dflt (refine' kun_lenL (News.isList ?zqa ?zqa2) ?zqb ?zqc ?_; (case zqa => k_asm); (case zqa2 => first | exact .head _ | exact .tail _ (.head _) | exact .tail _ (.tail _ (.head _)) | exact .tail _ (.tail _ (.tail _ (.head _))) | exact .tail _ (.tail _ (.tail _ (.tail _ (.head _))))); (case zqb => assumption); (case zqc => first | exact q9 ‹_› | omega); k_whole))) | (k_unfold; (try dsimp only)) | (k_end; wrow_close) | walk1 | (dsimp only; first | walk1 | (fail_if_success (fail_if_success (with_reducible show wpAny _ _ (call (Value.builtin "len") (_ :: _)) _ _ _))) | (fail_if_success (fail_if_success (with_reducible show wpAny _ _ (call (Value.ref _) (_ :: _)) _ _ _)))) | (leave1; walk_say "STEP leave1"; try dsimp only) | fail "no step"))
        exact ⟨_, _, _, rfl, ⟨_, rfl, by decide, by decide +kernel⟩, by k_asm, ndrop (a := []) (b := [_]) lN3⟩
    rintro _ y h3 tk3 ⟨ty, rfl, hyl, hyo⟩ F3 N3
    clear lF2 lN2
    (try (with_reducible show wpAny _ _ _ _ _ _)); (try k_fold); (repeat' (first | ((fail_if_success (fail_if_success (with_reducible show wpAny _ _ (call (Value.ref _) (_ :: _)) _ _ _))); (k_here; k_dflt (first | (refine' law_value_c _ _ _ _ _ ?zqhx0 ?zqho0 _ _ _ _ _ _ _ _ _ _ _ _ _ _ _ _ _ _ _ _ _ _ _ ?zqk1 ?zqk2 ?zqk3 ?zqk4 ?zqk5 ?zqkK ?zqkd ?zqku ?_; (case zqk1 => k_asm); (case zqk2 => k_asm); (case zqk3 => k_asm); (case zqk4 => k_asm); (case zqk5 => k_asm); (case zqkK => first | exact rfl | assumption); (case zqhx0 => assumption); (case zqho0 => assumption); (case zqkd => ktr_room); (case zqku => ktr_units); refine ⟨fun hvf hkt => ?zqvn, fun hkt => ?zqvt, fun n9 hvf hkt => ?zqvi⟩ <;> (intro t9 h9 tk9 r9 e9 F9 N9; subst e9; (try dsimp only); (try k_fold))) | (refine Stop.out ?_)))) | ((fail_if_success (fail_if_success (with_reducible show wpAny _ _ (call (Value.builtin "len") (_ :: _)) _ _ _))); (k_here; (with_reducible show wpAny _ _ (call (Value.builtin "len") [Value.ref _]) _ _ _); k_dflt (refine' kun_lenL (News.isList ?zqa ?zqa2) ?zqb ?zqc ?_; (case zqa => k_asm); (case zqa2 => first | exact .head _ | exact .tail _ (.head _) | exact .tail _ (.tail _ (.head _)) | exact .tail _ (.tail _ (.tail _ (.head _))) | exact .tail _ (.tail _ (.tail _ (.tail _ (.head _))))); (case zqb => assumption); (case zqc => first | exact q9 ‹_› | omega); k_whole))) | (k_unfold; (try dsimp only)) | (k_end; wrow_close) | walk1 | (dsimp only; first | walk1 | (fail_if_success (fail_if_success (with_reducible show wpAny _ _ (call (Value.builtin "len") (_ :: _)) _ _ _))) | (fail_if_success (fail_if_success (with_reducible show wpAny _ _ (call (Value.ref _) (_ :: _)) _ _ _)))) | (leave1; walk_say "STEP leave1"; try dsimp only) | fail "no step"))
    rename (News _ _ _ _) => lN4
    rename (@LT.lt Nat _ C _ ∧ _) => hq9
    refine' DatJ.fin ⟨_, rfl⟩ ?F9 ?N9 ?hq9 hti hdl hok hlt hyl hyo
    case F9 => k_asm
    case N9 => exact lN4
    case hq9 => exact hq9
  rintro s' ⟨hp', rfl⟩
  rintro dl dvs nx hnd hdlt ⟨tups, ds, rfl, hti, hdl, hok, htl⟩
  intro h6 tk6 F6 N6
  clear lF lN
  subst hn0
  have M := tailIn N6
  have N7 := News.sub N6 (inC (M _ (.tail _ (.tail _ (.tail _ (.tail _ (.head _)))))) (inC (M _ (.tail _ (.tail _ (.tail _ (.tail _ (.tail _ (.head _))))))) (inC (.head _) (inC (M _ (.head _)) (inC (M _ (.tail _ (.tail _ (.tail _ (.tail _ (.tail _ (.tail _ (.head _)))))))) (inC (M _ (.tail _ (.tail _ (.tail _ (.tail _ (.tail _ (.tail _ (.tail _ (.head _))))))))) (inC (M _ (.tail _ (.tail _ (.tail _ (.tail _ (.tail _ (.tail _ (.tail _ (.tail _ (.head _)))))))))) (inC (M _ (.tail _ (.tail _ (.tail _ (.tail _ (.tail _ (.tail _ (.tail _ (.tail _ (.tail _ (.head _))))))))))) (midIn (fun p hp => (.tail _ (.tail _ (.tail _ (.tail _ (.tail _ (.tail _ (.tail _ (.tail _ (.tail _ (.tail _ (hp)))))))))))))))))))))
  clear N6 M mla mcL mcS msa
  have hx2 : ∀ p ∈ tups ++ news, p.1 ≠ x := fun p hp => (List.mem_append.mp hp).elim (fun hp => Nat.ne_of_gt (htl p hp (x, _) (.tail _ (.tail _ (.tail _ (.tail _ (.head _))))))) fun hp => Nat.ne_of_lt (allLt_mem wl2.2.2.2.2.2 p hp)
  have hdx2 : ∀ p ∈ tups ++ news, p.1 ≠ dx := fun p hp => (List.mem_append.mp hp).elim (fun hp => Nat.ne_of_gt (htl p hp (dx, _) (.tail _ (.tail _ (.tail _ (.tail _ (.tail _ (.head _)))))))) fun hp => Nat.ne_of_lt (allLt_mem wl1.2.2.2.2 p hp)
  have hcG2 : ∀ p ∈ tups ++ news, p.1 ≠ L' + 1 + 1 + 1 := fun p hp => (List.mem_append.mp hp).elim (fun hp => Nat.ne_of_gt (htl p hp (L' + 1 + 1 + 1, _) (.tail _ (.tail _ (.tail _ (.tail _ (.tail _ (.tail _ (.head _))))))))) fun hp => hn3 p hp
  have hdl1 : @LT.lt Nat _ la dl := hdlt _ (.head _)
  have hdl2 : @LT.lt Nat _ x dl := hdlt (x, _) (.tail _ (.tail _ (.tail _ (.tail _ (.head _)))))
  have hdl3 : @LT.lt Nat _ dx dl := hdlt (dx, _) (.tail _ (.tail _ (.tail _ (.tail _ (.tail _ (.head _))))))
  have hti2 : TupsIn (tups ++ news) dvs ds := hti.mono2
  have hsub : ∀ p ∈ news, p ∈ tups ++ news := fun p hp => List.mem_append_right _ hp
  have hdsz : ds.length ≤ 10 := hdl ▸ hl2
  have hdvl : dvs.length = ds.length := hti2.1
  have hszd : (dvs.toArray.size : Int) = ((ds.length : Nat) : Int) := by rw [List.size_toArray, hdvl]
  clear hti hnd hdlt htl
  refine genEq (tups ++ news) ?_
  intro news2 hnw
  rw [hnw] at hx2 hdx2 hcG2 hti2 hsub N7
  (try (with_reducible show wpAny _ _ _ _ _ _)); (try k_fold); (repeat' (first | ((fail_if_success (fail_if_success (with_reducible show wpAny _ _ (call (Value.ref _) (_ :: _)) _ _ _))); (k_here; k_dflt (first | (refine' law_value_c _ _ _ _ _ ?zqhx0 ?zqho0 _ _ _ _ _ _ _ _ _ _ _ _ _ _ _ _ _ _ _ _ _ _ _ ?zqk1 ?zqk2 ?zqk3 ?zqk4 ?zqk5 ?zqkK ?zqkd ?zqku ?_; (case zqk1 => k_asm); (case zqk2 => k_asm); (case zqk3 => k_asm); (case zqk4 => k_asm); (case zqk5 => k_asm); (case zqkK => first | exact rfl | assumption); (case zqhx0 => assumption); (case zqho0 => assumption); (case zqkd => ktr_room); (case zqku => ktr_units); refine ⟨fun hvf hkt => ?zqvn, fun hkt => ?zqvt, fun n9 hvf hkt => ?zqvi⟩ <;> (intro t9 h9 tk9 r9 e9 F9 N9; subst e9; (try dsimp only); (try k_fold))) | (refine Stop.out ?_)))) | ((fail_if_success (fail_if_success (with_reducible show wpAny _ _ (call (Value.builtin "len") (_ :: _)) _ _ _))); (k_here; (with_reducible show wpAny _ _ (call (Value.builtin "len") [Value.ref _]) _ _ _); k_dflt (refine' kun_lenL (News.isList ?zqa ?zqa2) ?zqb ?zqc ?_; (case zqa => k_asm); (case zqa2 => first | exact .head _ | exact .tail _ (.head _) | exact .tail _ (.tail _ (.head _)) | exact .tail _ (.tail _ (.tail _ (.head _))) | exact .tail _ (.tail _ (.tail _ (.tail _ (.head _))))); (case zqb => assumption); (case zqc => first | exact q9 ‹_› | omega); k_whole))) | ((with_reducible show wpAny _ _ (setAttr (Value.ref _) (Str.ofString "data") _) _ _ _); k_here; k_dflt (refine' setW_data ?zk1 ?zk2 ?zk3 ?zk4 ?zk5 ?zk6 ?zk7 ?zk8 ?zk9 ?zk12 ?_; (case zk1 => k_asm); (case zk2 => k_asm); (case zk3 => k_asm); (case zk4 => k_inst); (case zk5 => exact rfl); (case zk6 => k_is); (case zk7 => k_is); (case zk8 => k_is); (case zk9 => k_is); (case zk12 => k_upd); k_whole; intro h' F' N'; (try k_sweep))) | (k_unfold; (try dsimp only)) | (k_end; wrow_close) | walk1 | (dsimp only; first | walk1 | (fail_if_success (fail_if_success (with_reducible show wpAny _ _ (call (Value.builtin "len") (_ :: _)) _ _ _))) | (fail_if_success (fail_if_success (with_reducible show wpAny _ _ (call (Value.ref _) (_ :: _)) _ _ _)))) | (leave1; walk_say "STEP leave1"; try dsimp only) | fail "no step"))
  refine Stop.mk ?_
  refine For_g ?_
  (try (with_reducible show wpAny _ _ _ _ _ _)); (try k_fold); (repeat' (first | ((fail_if_success (fail_if_success (with_reducible show wpAny _ _ (call (Value.ref _) (_ :: _)) _ _ _))); (k_here; k_dflt (first | (refine' law_value_c _ _ _ _ _ ?zqhx0 ?zqho0 _ _ _ _ _ _ _ _ _ _ _ _ _ _ _ _ _ _ _ _ _ _ _ ?zqk1 ?zqk2 ?zqk3 ?zqk4 ?zqk5 ?zqkK ?zqkd ?zqku ?_; (case zqk1 => k_asm); (case zqk2 => k_asm); (case zqk3 => k_asm); (case zqk4 => k_asm); (case zqk5 => k_asm); (case zqkK => first | exact rfl | assumption); (case zqhx0 => assumption); (case zqho0 => assumption); (case zqkd => ktr_room); (case zqku => ktr_units); refine ⟨fun hvf hkt => ?zqvn, fun hkt => ?zqvt, fun n9 hvf hkt => ?zqvi⟩ <;> (intro t9 h9 tk9 r9 e9 F9 N9; subst e9; (try dsimp only); (try k_fold))) | (refine Stop.out ?_)))) | ((fail_if_success (fail_if_success (with_reducible show wpAny _ _ (call (Value.builtin "len") (_ :: _)) _ _ _))); (k_here; (with_reducible show wpAny _ _ (call (Value.builtin "len") [Value.ref _]) _ _ _); k_dflt (refine' kun_lenL (News.isList ?zqa ?zqa2) ?zqb ?zqc ?_; (case zqa => k_asm); (case zqa2 => first | exact .head _ | exact .tail _ (.head _) | exact .tail _ (.tail _ (.head _)) | exact .tail _ (.tail _ (.tail _ (.head _))) | exact .tail _ (.tail _ (.tail _ (.tail _ (.head _))))); (case zqb => assumption); (case zqc => first | exact q9 ‹_› | omega); k_whole))) | (k_unfold; (try dsimp only)) | (k_end; wrow_close) | walk1 | (dsimp only; first | walk1 | (fail_if_success (fail_if_success (with_reducible show wpAny _ _ (call (Value.builtin "len") (_ :: _)) _ _ _))) | (fail_if_success (fail_if_success (with_reducible show wpAny _ _ (call (Value.ref _) (_ :: _)) _ _ _)))) | (leave1; walk_say "STEP leave1"; try dsimp only) | fail "no step"))
  rename (IntsAre _ (ns ++ ns.reverse)) => hIm
  (rename (Fr _ _ _ _) => lF)
  (rename (News _ _ _ _) => lN)
  refine nameHead lN ?_
  intro ml e
  subst e
  have N8 := News.sub lN (inC (.tail _ (.tail _ (.head _))) (inC (.tail _ (.tail _ (.tail _ (.head _)))) (inC (.tail _ (.tail _ (.tail _ (.tail _ (.head _))))) (inC (.tail _ (.tail _ (.tail _ (.tail _ (.tail _ (.head _)))))) (inC (.tail _ (.tail _ (.tail _ (.tail _ (.tail _ (.tail _ (.head _))))))) (inC (.head _) (inC (.tail _ (.tail _ (.tail _ (.tail _ (.tail _ (.tail _ (.tail _ (.head _)))))))) (inC (.tail _ (.tail _ (.tail _ (.tail _ (.tail _ (.tail _ (.tail _ (.tail _ (.head _))))))))) (inC (.tail _ (.tail _ (.tail _ (.tail _ (.tail _ (.tail _ (.tail _ (.tail _ (.tail _ (.head _)))))))))) (fun p hp => (.tail _ (.tail _ (.tail _ (.tail _ (.tail _ (.tail _ (.tail _ (.tail _ (.tail _ (.tail _ (hp)))))))))))))))))))))
  clear lN
  refine' fg_list (σ := DrSt) (OkG w p loose mean mg mb (ktrTop dp un gd cn cs L a ccd [] []) h₀ [envOf cn cs L a ccd] g') (fun c : DrSt => [(x, instObj 166 dx), (dx, dictOf c.es 28), (dl, W.listOf dvs.toArray dvs.length), (la, W.listOf #[Value.int 10 tkw0, Value.int 20 (tkw0 + 1), Value.int 30 (tkw0 + 1 + 1)] 0), (L' + 1 + 1 + 1, c.go)]) ((ml, W.listOf _ 0) :: (L' + 1 + 1, oL2) :: (L' + 1, oS) :: (sa, W.listOf vs.toArray nn) :: news2) (fun c : DrSt => [(Str.ofString "world", Value.ref x), (Str.ofString "spot", Value.int c.z c.t)]) (fun _ c => DrInv w (.ref oa) (.str "" t0) (.ref ia) dl ds.length c) ?hh ?hx ?hp ?F ?hok ?hnone ?hI ?hl ?hc ?adr ?turn2 ?done ?hE
  case F => exact lF
  case hh => exact rfl
  case hx => exact rfl
  case hp => exact rfl
  case hok => exact ⟨.refl, B', X', T', D'⟩
  case hnone => exact fun g hg => hg.1.none_
  case hI => exact hIm
  case hl => exact .head _
  case hc => exact ⟨⟨0, 0, _, 0, _, _, oG⟩, N8, ⟨rfl, rfl, trivial⟩, WD.of, rfl, rfl, Nat.zero_le _, _, dG⟩
  case adr => exact fun c c' => rfl
  case hE => passes_own
  case turn2 =>
    clear lF N8 hIm
    intro i k t c g u h tk I o hk9 hOk hIlt hP F1 N1
    obtain ⟨sp, z, tz, z2, tz2, es2, go⟩ := c
    obtain ⟨hes2, hz, hz2, hspl, gv, hgo⟩ := hP
    dsimp only at hes2 hz hz2 hspl hgo F1 N1 hIlt
    subst hz hz2
    obtain ⟨T2, U2, rfl⟩ := hes2.ex
    (try dsimp only at F1 N1)
    obtain ⟨OT, OB, OX, OP, OD⟩ := hOk
    clear FG' B' X' T' D'
    have hI1 : @LT.lt Nat _ x I := hIlt (x, _) (.head _)
    have hI2 : @LT.lt Nat _ dx I := hIlt (dx, _) (.tail _ (.head _))
    have hI3 : @LT.lt Nat _ (L' + 1 + 1 + 1) I := hIlt (L' + 1 + 1 + 1, _) (.tail _ (.tail _ (.tail _ (.tail _ (.head _)))))
    clear hIlt
    simp only [List.cons_append, List.nil_append] at N1
    (try (with_reducible show wpAny _ _ _ _ _ _)); (try k_fold); (repeat' (first | ((fail_if_success (fail_if_success (with_reducible show wpAny _ _ (call (Value.ref _) (_ :: _)) _ _ _))); (k_here; k_dflt (first | (refine' law_value_c _ _ _ _ _ ?zqhx0 ?zqho0 _ _ _ _ _ _ _ _ _ _ _ _ _ _ _ _ _ _ _ _ _ _ _ ?zqk1 ?zqk2 ?zqk3 ?zqk4 ?zqk5 ?zqkK ?zqkd ?zqku ?_; (case zqk1 => k_asm); (case zqk2 => k_asm); (case zqk3 => k_asm); (case zqk4 => k_asm); (case zqk5 => k_asm); (case zqkK => first | exact rfl | assumption); (case zqhx0 => assumption); (case zqho0 => assumption); (case zqkd => ktr_room); (case zqku => ktr_units); refine ⟨fun hvf hkt => ?zqvn, fun hkt => ?zqvt, fun n9 hvf hkt => ?zqvi⟩ <;> (intro t9 h9 tk9 r9 e9 F9 N9; subst e9; (try dsimp only); (try k_fold))) | (refine Stop.out ?_)))) | ((fail_if_success (fail_if_success (with_reducible show wpAny _ _ (call (Value.builtin "len") (_ :: _)) _ _ _))); (k_here; (with_reducible show wpAny _ _ (call (Value.builtin "len") [Value.ref _]) _ _ _); k_dflt (refine' kun_lenL (News.isList ?zqa ?zqa2) ?zqb ?zqc ?_; (case zqa => k_asm); (case zqa2 => first | exact .head _ | exact .tail _ (.head _) | exact .tail _ (.tail _ (.head _)) | exact .tail _ (.tail _ (.tail _ (.head _))) | exact .tail _ (.tail _ (.tail _ (.tail _ (.head _))))); (case zqb => assumption); (case zqc => first | exact q9 ‹_› | omega); k_whole))) | (k_unfold; (try dsimp only)) | (k_end; wrow_close) | walk1 | (dsimp only; first | walk1 | (fail_if_success (fail_if_success (with_reducible show wpAny _ _ (call (Value.builtin "len") (_ :: _)) _ _ _))) | (fail_if_success (fail_if_success (with_reducible show wpAny _ _ (call (Value.ref _) (_ :: _)) _ _ _)))) | (leave1; walk_say "STEP leave1"; try dsimp only) | fail "no step"))
    · refine Stop.mk ?_
      (rename (Fr _ _ _ _) => lF)
      (rename (News _ _ _ _) => lN)
      rename (Int.fmod _ 6 < 4) => hlt4
      have hm4 := mod6lt _ hlt4
      have lN1 := ndrop (a := []) (b := [_]) lN
      simp only [List.nil_append] at lN1
      clear lN
      refine genEq (Int.fmod (Int.fdiv k 5) 6) ?_
      intro fm hfm
      rw [hfm] at hlt4 hm4 lF
      (try rw [hfm])
      clear hfm
      refine' ev_prompt (fun y v => ∃ t, v = .str y t) ?F ?N ?prompt ?_
      case F => exact lF
      case N => exact lN1
      case prompt =>
        have so : StopOff := .mk
        (try (with_reducible show wpAny _ _ _ _ _ _)); (try k_fold); (repeat' (first | ((fail_if_success (fail_if_success (with_reducible show wpAny _ _ (call (Value.ref _) (_ :: _)) _ _ _))); (k_here; k_dflt (first | (refine' law_value_c _ _ _ _ _ ?zqhx0 ?zqho0 _ _ _ _ _ _ _ _ _ _ _ _ _ _ _ _ _ _ _ _ _ _ _ ?zqk1 ?zqk2 ?zqk3 ?zqk4 ?zqk5 ?zqkK ?zqkd ?zqku ?_; (case zqk1 => k_asm); (case zqk2 => k_asm); (case zqk3 => k_asm); (case zqk4 => k_asm); (case zqk5 => k_asm); (case zqkK => first | exact rfl | assumption); (case zqhx0 => assumption); (case zqho0 => assumption); (case zqkd => ktr_room); (case zqku => ktr_units); refine ⟨fun hvf hkt => ?zqvn, fun hkt => ?zqvt, fun n9 hvf hkt => ?zqvi⟩ <;> (intro t9 h9 tk9 r9 e9 F9 N9; subst e9; (try dsimp only); (try k_fold))) | (refine Stop.out ?_)))) | ((fail_if_success (fail_if_success (with_reducible show wpAny _ _ (call (Value.builtin "len") (_ :: _)) _ _ _))); (k_here; (with_reducible show wpAny _ _ (call (Value.builtin "len") [Value.ref _]) _ _ _); k_dflt (refine' kun_lenL (News.isList ?zqa ?zqa2) ?zqb ?zqc ?_; (case zqa => k_asm); (case zqa2 => first | exact .head _ | exact .tail _ (.head _) | exact .tail _ (.tail _ (.head _)) | exact .tail _ (.tail _ (.tail _ (.head _))) | exact .tail _ (.tail _ (.tail _ (.tail _ (.head _))))); (case zqb => assumption); (case zqc => first | exact q9 ‹_› | omega); k_whole))) | (k_unfold; (try dsimp only)) | (k_end; wrow_close) | walk1 | (dsimp only; first | walk1 | (fail_if_success (fail_if_success (with_reducible show wpAny _ _ (call (Value.builtin "len") (_ :: _)) _ _ _))) | (fail_if_success (fail_if_success (with_reducible show wpAny _ _ (call (Value.ref _) (_ :: _)) _ _ _)))) | (leave1; walk_say "STEP leave1"; try dsimp only) | fail "no step"))
        refine Stop.mk ?_
        rename (News _ _ _ _) => lN2
        rcases hm4 with rfl | rfl | rfl | rfl
        all_goals
          (try (rename StopOff => so9; clear so9))
          (try (with_reducible show wpAny _ _ _ _ _ _)); (try k_fold); (repeat' (first | ((fail_if_success (fail_if_success (with_reducible show wpAny _ _ (call (Value.ref _) (_ :: _)) _ _ _))); (k_here; k_dflt (first | (refine' law_value_c _ _ _ _ _ ?zqhx0 ?zqho0 _ _ _ _ _ _ _ _ _ _ _ _ _ _ _ _ _ _ _ _ _ _ _ ?zqk1 ?zqk2 ?zqk3 ?zqk4 ?zqk5 ?zqkK ?zqkd ?zqku ?_; (case zqk1 => k_asm); (case zqk2 => k_asm); (case zqk3 => k_asm); (case zqk4 => k_asm); (case zqk5 => k_asm); (case zqkK => first | exact rfl | assumption); (case zqhx0 => assumption); (case zqho0 => assumption); (case zqkd => ktr_room); (case zqku => ktr_units); refine ⟨fun hvf hkt => ?zqvn, fun hkt => ?zqvt, fun n9 hvf hkt => ?zqvi⟩ <;> (intro t9 h9 tk9 r9 e9 F9 N9; subst e9; (try dsimp only); (try k_fold))) | (refine Stop.out ?_)))) | ((fail_if_success (fail_if_success (with_reducible show wpAny _ _ (call (Value.builtin "len") (_ :: _)) _ _ _))); (k_here; (with_reducible show wpAny _ _ (call (Value.builtin "len") [Value.ref _]) _ _ _); k_dflt (refine' kun_lenL (News.isList ?zqa ?zqa2) ?zqb ?zqc ?_; (case zqa => k_asm); (case zqa2 => first | exact .head _ | exact .tail _ (.head _) | exact .tail _ (.tail _ (.head _)) | exact .tail _ (.tail _ (.tail _ (.head _))) | exact .tail _ (.tail _ (.tail _ (.tail _ (.head _))))); (case zqb => assumption); (case zqc => first | exact q9 ‹_› | omega); k_whole))) | (k_unfold; (try dsimp only)) | (k_end; wrow_close) | walk1 | (dsimp only; first | walk1 | (fail_if_success (fail_if_success (with_reducible show wpAny _ _ (call (Value.builtin "len") (_ :: _)) _ _ _))) | (fail_if_success (fail_if_success (with_reducible show wpAny _ _ (call (Value.ref _) (_ :: _)) _ _ _)))) | (leave1; walk_say "STEP leave1"; try dsimp only) | fail "no step"))
          exact ⟨_, _, _, rfl, ⟨_, rfl⟩, by k_asm, ndrop (a := []) (b := [_]) lN2⟩
      rintro _ kd h3 tk3 ⟨tkd, rfl⟩ F3 N3
      clear lF lN1
      have hdo : ∀ d ∈ ds, d.2.length ≤ 20 ∧ PyData.strOk d.2 = true := fun d hd => by
        obtain ⟨j, hj⟩ := List.mem_iff_getElem?.mp hd
        exact (hok j d hj).2
      (try (with_reducible show wpAny _ _ _ _ _ _)); (try k_fold); (repeat' (first | ((fail_if_success (fail_if_success (with_reducible show wpAny _ _ (call (Value.ref _) (_ :: _)) _ _ _))); (k_here; k_dflt (first | (refine' law_value_c _ _ _ _ _ ?zqhx0 ?zqho0 _ _ _ _ _ _ _ _ _ _ _ _ _ _ _ _ _ _ _ _ _ _ _ ?zqk1 ?zqk2 ?zqk3 ?zqk4 ?zqk5 ?zqkK ?zqkd ?zqku ?_; (case zqk1 => k_asm); (case zqk2 => k_asm); (case zqk3 => k_asm); (case zqk4 => k_asm); (case zqk5 => k_asm); (case zqkK => first | exact rfl | assumption); (case zqhx0 => assumption); (case zqho0 => assumption); (case zqkd => ktr_room); (case zqku => ktr_units); refine ⟨fun hvf hkt => ?zqvn, fun hkt => ?zqvt, fun n9 hvf hkt => ?zqvi⟩ <;> (intro t9 h9 tk9 r9 e9 F9 N9; subst e9; (try dsimp only); (try k_fold))) | (refine Stop.out ?_)))) | ((fail_if_success (fail_if_success (with_reducible show wpAny _ _ (call (Value.builtin "len") (_ :: _)) _ _ _))); (k_here; (with_reducible show wpAny _ _ (call (Value.builtin "len") [Value.ref _]) _ _ _); k_dflt (refine' kun_lenL (News.isList ?zqa ?zqa2) ?zqb ?zqc ?_; (case zqa => k_asm); (case zqa2 => first | exact .head _ | exact .tail _ (.head _) | exact .tail _ (.tail _ (.head _)) | exact .tail _ (.tail _ (.tail _ (.head _))) | exact .tail _ (.tail _ (.tail _ (.tail _ (.head _))))); (case zqb => assumption); (case zqc => first | exact q9 ‹_› | omega); k_whole))) | (k_unfold; (try dsimp only)) | (k_end; wrow_close) | walk1 | (dsimp only; first | walk1 | (fail_if_success (fail_if_success (with_reducible show wpAny _ _ (call (Value.builtin "len") (_ :: _)) _ _ _))) | (fail_if_success (fail_if_success (with_reducible show wpAny _ _ (call (Value.ref _) (_ :: _)) _ _ _)))) | (leave1; walk_say "STEP leave1"; try dsimp only) | fail "no step"))
      · refine Stop.mk ?_
        rename (News _ _ _ _) => lN
        have lN5 := News.sub lN (inC (.tail _ (.head _)) (inC (.tail _ (.tail _ (.head _))) (inC (.tail _ (.tail _ (.tail _ (.head _)))) (inC (.head _) (inC (.tail _ (.tail _ (.tail _ (.tail _ (.head _))))) (inC (.tail _ (.tail _ (.tail _ (.tail _ (.tail _ (.head _)))))) (inC (.tail _ (.tail _ (.tail _ (.tail _ (.tail _ (.tail _ (.head _))))))) (inC (.tail _ (.tail _ (.tail _ (.tail _ (.tail _ (.tail _ (.tail _ (.head _)))))))) (inC (.tail _ (.tail _ (.tail _ (.tail _ (.tail _ (.tail _ (.tail _ (.tail _ (.head _))))))))) (inC (.tail _ (.tail _ (.tail _ (.tail _ (.tail _ (.tail _ (.tail _ (.tail _ (.tail _ (.head _)))))))))) (inC (.tail _ (.tail _ (.tail _ (.tail _ (.tail _ (.tail _ (.tail _ (.tail _ (.tail _ (.tail _ (.head _))))))))))) (fun p hp => (.tail _ (.tail _ (.tail _ (.tail _ (.tail _ (.tail _ (.tail _ (.tail _ (.tail _ (.tail _ (.tail _ (hp))))))))))))))))))))))))
        have hdn : ds[sp]? = none := List.getElem?_eq_none (q6 ‹_›)
        clear lN
        refine' read_item_c _ _ _ _ _ _ _ _ ds _ sp ?hsp ?hdl ?ts _ ?hes ?hdo _ _ _ ?hti ?d1 ?d2 ?d3 ?d5 ?d6 _ _ _ _ _ _ _ _ _ _ _ _ _ _ _ _ _ _ _ _ _ _ ?k1 ?k2 ?k3 ?k4 ?k5 ?kK ?kd ?ku ?_
        case k1 => k_asm
        case k2 => k_asm
        case k3 => k_asm
        case k4 => exact lN5
        case k5 => k_asm
        case kK => exact rfl
        case hsp => exact hspl
        case hdl => exact hdsz
        case hes => exact WD.ent
        case hdo => exact hdo
        case hti => exact hti2.mono fun p hp => (.tail _ (.tail _ (.tail _ (.tail _ (.tail _ (.tail _ (.tail _ (.tail _ (hp)))))))))
        case d1 => k_ne
        case d2 => k_ne
        case d3 => k_ne
        case d5 => exact List.forall_mem_cons.mpr ⟨by k_ne, List.forall_mem_cons.mpr ⟨by k_ne, List.forall_mem_cons.mpr ⟨by k_ne, List.forall_mem_cons.mpr ⟨by k_ne, List.forall_mem_cons.mpr ⟨by k_ne, List.forall_mem_cons.mpr ⟨by k_ne, List.forall_mem_cons.mpr ⟨by k_ne, List.forall_mem_cons.mpr ⟨by k_ne, hx2⟩⟩⟩⟩⟩⟩⟩⟩
        case d6 => exact List.forall_mem_cons.mpr ⟨by k_ne, List.forall_mem_cons.mpr ⟨by k_ne, List.forall_mem_cons.mpr ⟨by k_ne, List.forall_mem_cons.mpr ⟨by k_ne, List.forall_mem_cons.mpr ⟨by k_ne, List.forall_mem_cons.mpr ⟨by k_ne, List.forall_mem_cons.mpr ⟨by k_ne, List.forall_mem_cons.mpr ⟨by k_ne, hdx2⟩⟩⟩⟩⟩⟩⟩⟩
        case kd => ktr_room
        case ku => ktr_units
        refine ⟨fun d v hd hv => ?_, fun c hc => ?_⟩
        · rw [hdn] at hd
          cases hd
        intro h4 g4 tk4 e de od hcd F4 U4 R4
        obtain ⟨-, rfl⟩ | ⟨d, hd, -⟩ := hc
        rotate_left
        · rw [hdn] at hd
          cases hd
        dsimp only
        (try (with_reducible show wpAny _ _ _ _ _ _)); (try k_fold)
        (try (with_reducible show wpAny _ _ _ _ _ _)); (try k_fold); (repeat' (first | ((fail_if_success (fail_if_success (with_reducible show wpAny _ _ (call (Value.ref _) (_ :: _)) _ _ _))); (k_here; k_dflt (first | (refine' law_value_c _ _ _ _ _ ?zqhx0 ?zqho0 _ _ _ _ _ _ _ _ _ _ _ _ _ _ _ _ _ _ _ _ _ _ _ ?zqk1 ?zqk2 ?zqk3 ?zqk4 ?zqk5 ?zqkK ?zqkd ?zqku ?_; (case zqk1 => k_asm); (case zqk2 => k_asm); (case zqk3 => k_asm); (case zqk4 => k_asm); (case zqk5 => k_asm); (case zqkK => first | exact rfl | assumption); (case zqhx0 => assumption); (case zqho0 => assumption); (case zqkd => ktr_room); (case zqku => ktr_units); refine ⟨fun hvf hkt => ?zqvn, fun hkt => ?zqvt, fun n9 hvf hkt => ?zqvi⟩ <;> (intro t9 h9 tk9 r9 e9 F9 N9; subst e9; (try dsimp only); (try k_fold))) | (refine Stop.out ?_)))) | ((fail_if_success (fail_if_success (with_reducible show wpAny _ _ (call (Value.builtin "len") (_ :: _)) _ _ _))); (k_here; (with_reducible show wpAny _ _ (call (Value.builtin "len") [Value.ref _]) _ _ _); k_dflt (refine' kun_lenL (News.isList ?zqa ?zqa2) ?zqb ?zqc ?_; (case zqa => k_asm); (case zqa2 => first | exact .head _ | exact .tail _ (.head _) | exact .tail _ (.tail _ (.head _)) | exact .tail _ (.tail _ (.tail _ (.head _))) | exact .tail _ (.tail _ (.tail _ (.tail _ (.head _))))); (case zqb => assumption); (case zqc => first | exact q9 ‹_› | omega); k_whole))) | (k_unfold; (try dsimp only)) | (k_end; wrow_close) | walk1 | (dsimp only; first | walk1 | (fail_if_success (fail_if_success (with_reducible show wpAny _ _ (call (Value.builtin "len") (_ :: _)) _ _ _))) | (fail_if_success (fail_if_success (with_reducible show wpAny _ _ (call (Value.ref _) (_ :: _)) _ _ _)))) | (leave1; walk_say "STEP leave1"; try dsimp only) | fail "no step"))
        refine Stop.mk ?_
        refine' caught_excX ?cR ?cF ?cK ?cH ?cX ?cT ?cD ?cT0 ?cE ?cQ ?_
        case cR => exact R4
        case cF => exact F4
        case cK => exact OB
        case cH => exact U4
        case cX => exact X
        case cT => exact T
        case cD => exact OD
        case cT0 => exact OT
        case cE => k_is
        case cQ => kts_isx
        intro h5 g5 oe tk5 OT5 F5 hcls hdi hnc N5 OB5 OX5 OP5 OD5
        clear F4 U4 R4 OT OB OX OP OD
        (try (with_reducible show wpAny _ _ _ _ _ _)); (try k_fold); (repeat' (first | ((fail_if_success (fail_if_success (with_reducible show wpAny _ _ (call (Value.ref _) (_ :: _)) _ _ _))); (k_here; k_dflt (first | (refine' law_value_c _ _ _ _ _ ?zqhx0 ?zqho0 _ _ _ _ _ _ _ _ _ _ _ _ _ _ _ _ _ _ _ _ _ _ _ ?zqk1 ?zqk2 ?zqk3 ?zqk4 ?zqk5 ?zqkK ?zqkd ?zqku ?_; (case zqk1 => k_asm); (case zqk2 => k_asm); (case zqk3 => k_asm); (case zqk4 => k_asm); (case zqk5 => k_asm); (case zqkK => first | exact rfl | assumption); (case zqhx0 => assumption); (case zqho0 => assumption); (case zqkd => ktr_room); (case zqku => ktr_units); refine ⟨fun hvf hkt => ?zqvn, fun hkt => ?zqvt, fun n9 hvf hkt => ?zqvi⟩ <;> (intro t9 h9 tk9 r9 e9 F9 N9; subst e9; (try dsimp only); (try k_fold))) | (refine Stop.out ?_)))) | ((fail_if_success (fail_if_success (with_reducible show wpAny _ _ (call (Value.builtin "len") (_ :: _)) _ _ _))); (k_here; (with_reducible show wpAny _ _ (call (Value.builtin "len") [Value.ref _]) _ _ _); k_dflt (refine' kun_lenL (News.isList ?zqa ?zqa2) ?zqb ?zqc ?_; (case zqa => k_asm); (case zqa2 => first | exact .head _ | exact .tail _ (.head _) | exact .tail _ (.tail _ (.head _)) | exact .tail _ (.tail _ (.tail _ (.head _))) | exact .tail _ (.tail _ (.tail _ (.tail _ (.head _))))); (case zqb => assumption); (case zqc => first | exact q9 ‹_› | omega); k_whole))) | (k_unfold; (try dsimp only)) | (k_end; wrow_close) | walk1 | (dsimp only; first | walk1 | (fail_if_success (fail_if_success (with_reducible show wpAny _ _ (call (Value.builtin "len") (_ :: _)) _ _ _))) | (fail_if_success (fail_if_success (with_reducible show wpAny _ _ (call (Value.ref _) (_ :: _)) _ _ _)))) | (leave1; walk_say "STEP leave1"; try dsimp only) | fail "no step"))
        refine Stop.mk ?_
        rename (Fr g5 _ _ _) => lF
        rename (News g5 _ _ _) => lN
        refine' code_get OX5 ?gF ?gN ?gm ?gd hcls hdi hnc hcd ?_
        case gF => exact lF
        case gN => exact lN
        case gm => first | exact .head _ | exact .tail _ (.head _)
        case gd => first | exact .tail _ (.head _) | exact .tail _ (.tail _ (.head _))
        intro tc
        (try (with_reducible show wpAny _ _ _ _ _ _)); (try k_fold); (repeat' (first | ((fail_if_success (fail_if_success (with_reducible show wpAny _ _ (call (Value.ref _) (_ :: _)) _ _ _))); (k_here; k_dflt (first | (refine' law_value_c _ _ _ _ _ ?zqhx0 ?zqho0 _ _ _ _ _ _ _ _ _ _ _ _ _ _ _ _ _ _ _ _ _ _ _ ?zqk1 ?zqk2 ?zqk3 ?zqk4 ?zqk5 ?zqkK ?zqkd ?zqku ?_; (case zqk1 => k_asm); (case zqk2 => k_asm); (case zqk3 => k_asm); (case zqk4 => k_asm); (case zqk5 => k_asm); (case zqkK => first | exact rfl | assumption); (case zqhx0 => assumption); (case zqho0 => assumption); (case zqkd => ktr_room); (case zqku => ktr_units); refine ⟨fun hvf hkt => ?zqvn, fun hkt => ?zqvt, fun n9 hvf hkt => ?zqvi⟩ <;> (intro t9 h9 tk9 r9 e9 F9 N9; subst e9; (try dsimp only); (try k_fold))) | (refine Stop.out ?_)))) | ((fail_if_success (fail_if_success (with_reducible show wpAny _ _ (call (Value.builtin "len") (_ :: _)) _ _ _))); (k_here; (with_reducible show wpAny _ _ (call (Value.builtin "len") [Value.ref _]) _ _ _); k_dflt (refine' kun_lenL (News.isList ?zqa ?zqa2) ?zqb ?zqc ?_; (case zqa => k_asm); (case zqa2 => first | exact .head _ | exact .tail _ (.head _) | exact .tail _ (.tail _ (.head _)) | exact .tail _ (.tail _ (.tail _ (.head _))) | exact .tail _ (.tail _ (.tail _ (.tail _ (.head _))))); (case zqb => assumption); (case zqc => first | exact q9 ‹_› | omega); k_whole))) | (k_unfold; (try dsimp only)) | (k_end; wrow_close) | walk1 | (dsimp only; first | walk1 | (fail_if_success (fail_if_success (with_reducible show wpAny _ _ (call (Value.builtin "len") (_ :: _)) _ _ _))) | (fail_if_success (fail_if_success (with_reducible show wpAny _ _ (call (Value.ref _) (_ :: _)) _ _ _)))) | (leave1; walk_say "STEP leave1"; try dsimp only) | fail "no step"))
        refine Stop.mk ?_
        rename (News g5 _ _ _) => lN6
        refine' ne_tup (reads_newDataT (News.isTup lN6 ?a) ?b) (reads_newDataT (News.isTup lN6 ?c) ?d) ?s ?f ?_
        case a => exact .head _
        case b => exact .cons (.str _ _) (.cons (.str _ _) .nil)
        case c => exact (.tail _ (.tail _ (.tail _ (.tail _ (.tail _ (.tail _ (.head _)))))))
        case d => exact .cons (.str _ _) (.cons (.str _ _) .nil)
        case s => exact shaped_two (flat_str (by decide +kernel)) (flat_str (by decide +kernel))
        case f => exact (Mine.rm2 hu rfl : un + 3 + 64 < cLine)
        (try (with_reducible show wpAny _ _ _ _ _ _)); (try k_fold); (repeat' (first | ((fail_if_success (fail_if_success (with_reducible show wpAny _ _ (call (Value.ref _) (_ :: _)) _ _ _))); (k_here; k_dflt (first | (refine' law_value_c _ _ _ _ _ ?zqhx0 ?zqho0 _ _ _ _ _ _ _ _ _ _ _ _ _ _ _ _ _ _ _ _ _ _ _ ?zqk1 ?zqk2 ?zqk3 ?zqk4 ?zqk5 ?zqkK ?zqkd ?zqku ?_; (case zqk1 => k_asm); (case zqk2 => k_asm); (case zqk3 => k_asm); (case zqk4 => k_asm); (case zqk5 => k_asm); (case zqkK => first | exact rfl | assumption); (case zqhx0 => assumption); (case zqho0 => assumption); (case zqkd => ktr_room); (case zqku => ktr_units); refine ⟨fun hvf hkt => ?zqvn, fun hkt => ?zqvt, fun n9 hvf hkt => ?zqvi⟩ <;> (intro t9 h9 tk9 r9 e9 F9 N9; subst e9; (try dsimp only); (try k_fold))) | (refine Stop.out ?_)))) | ((fail_if_success (fail_if_success (with_reducible show wpAny _ _ (call (Value.builtin "len") (_ :: _)) _ _ _))); (k_here; (with_reducible show wpAny _ _ (call (Value.builtin "len") [Value.ref _]) _ _ _); k_dflt (refine' kun_lenL (News.isList ?zqa ?zqa2) ?zqb ?zqc ?_; (case zqa => k_asm); (case zqa2 => first | exact .head _ | exact .tail _ (.head _) | exact .tail _ (.tail _ (.head _)) | exact .tail _ (.tail _ (.tail _ (.head _))) | exact .tail _ (.tail _ (.tail _ (.tail _ (.head _))))); (case zqb => assumption); (case zqc => first | exact q9 ‹_› | omega); k_whole))) | (k_unfold; (try dsimp only)) | (k_end; wrow_close) | walk1 | (dsimp only; first | walk1 | (fail_if_success (fail_if_success (with_reducible show wpAny _ _ (call (Value.builtin "len") (_ :: _)) _ _ _))) | (fail_if_success (fail_if_success (with_reducible show wpAny _ _ (call (Value.ref _) (_ :: _)) _ _ _)))) | (leave1; walk_say "STEP leave1"; try dsimp only) | fail "no step"))
        (first | exact absurd rfl ‹_› | exact absurd (Int.add_zero _).symm ‹_› | (exfalso; omega) | skip)
        rename (News g5 _ _ _) => hN
        exact ex5 ⟨sp, _, _, _, _, _, _⟩ g5 _ _ _ ⟨rfl, ⟨OT5, OB5, OX5, OP5, OD5⟩, by k_asm, News.sub hN (inC (.tail _ (.tail _ (.tail _ (.head _)))) (inC (.tail _ (.tail _ (.tail _ (.tail _ (.head _))))) (inC (.tail _ (.tail _ (.tail _ (.tail _ (.tail _ (.head _)))))) (inC (.tail _ (.tail _ (.tail _ (.tail _ (.tail _ (.tail _ (.tail _ (.head _)))))))) (inC (.tail _ (.tail _ (.tail _ (.tail _ (.tail _ (.tail _ (.tail _ (.tail _ (.head _))))))))) (inC (.tail _ (.tail _ (.tail _ (.tail _ (.tail _ (.tail _ (.tail _ (.tail _ (.tail _ (.head _)))))))))) (inC (.tail _ (.tail _ (.tail _ (.tail _ (.tail _ (.tail _ (.tail _ (.tail _ (.tail _ (.tail _ (.head _))))))))))) (inC (.tail _ (.tail _ (.tail _ (.tail _ (.tail _ (.tail _ (.tail _ (.tail _ (.tail _ (.tail _ (.tail _ (.head _)))))))))))) (inC (.tail _ (.tail _ (.tail _ (.tail _ (.tail _ (.tail _ (.tail _ (.tail _ (.tail _ (.tail _ (.tail _ (.tail _ (.head _))))))))))))) (inC (.tail _ (.tail _ (.tail _ (.tail _ (.tail _ (.tail _ (.tail _ (.tail _ (.tail _ (.tail _ (.tail _ (.tail _ (.tail _ (.head _)))))))))))))) (fun p hp => (.tail _ (.tail _ (.tail _ (.tail _ (.tail _ (.tail _ (.tail _ (.tail _ (.tail _ (.tail _ (.tail _ (.tail _ (.tail _ (.tail _ (hp)))))))))))))))))))))))))), ⟨rfl, rfl, trivial⟩, ⟨WD.of, by (try dsimp only) <;> omega, by (try dsimp only) <;> omega, by (try dsimp only) <;> omega, _, by assumption⟩⟩
      · first | contradiction | (exfalso; omega)
      · refine Stop.mk ?_
        rename (News g _ _ _) => lN
        have hsp2 : sp < ds.length := q7 hspl ‹_›
        obtain ⟨d, hd⟩ : ∃ d, ds[sp]? = some d := ⟨_, List.getElem?_eq_getElem hsp2⟩
        obtain ⟨hdo1, hdo2⟩ := hdo d (List.mem_of_getElem? hd)
        obtain ⟨TT, tt1, tt2, hTv, hTm⟩ := hti2.2 sp d hd
        dsimp only
        refine' item_gen (News.isList lN (.tail _ (.tail _ (.head _)))) ?i0 ?i1 ?i2 ?_
        case i0 => exact Int.natCast_nonneg _
        case i1 => exact q8 hsp2 hdsz
        case i2 => exact hTv
        have hTm2 := News.isTup lN ((.tail _ (.tail _ (.tail _ (.tail _ (.tail _ (.tail _ (.tail _ (.tail _ (.tail _ (.tail _ (hTm))))))))))))
        (try (with_reducible show wpAny _ _ _ _ _ _)); (try k_fold); (repeat' (first | ((fail_if_success (fail_if_success (with_reducible show wpAny _ _ (call (Value.ref _) (_ :: _)) _ _ _))); (k_here; k_dflt (first | (refine' law_value_c _ _ _ _ _ ?zqhx0 ?zqho0 _ _ _ _ _ _ _ _ _ _ _ _ _ _ _ _ _ _ _ _ _ _ _ ?zqk1 ?zqk2 ?zqk3 ?zqk4 ?zqk5 ?zqkK ?zqkd ?zqku ?_; (case zqk1 => k_asm); (case zqk2 => k_asm); (case zqk3 => k_asm); (case zqk4 => k_asm); (case zqk5 => k_asm); (case zqkK => first | exact rfl | assumption); (case zqhx0 => assumption); (case zqho0 => assumption); (case zqkd => ktr_room); (case zqku => ktr_units); refine ⟨fun hvf hkt => ?zqvn, fun hkt => ?zqvt, fun n9 hvf hkt => ?zqvi⟩ <;> (intro t9 h9 tk9 r9 e9 F9 N9; subst e9; (try dsimp only); (try k_fold))) | (refine Stop.out ?_)))) | ((fail_if_success (fail_if_success (with_reducible show wpAny _ _ (call (Value.builtin "len") (_ :: _)) _ _ _))); (k_here; (with_reducible show wpAny _ _ (call (Value.builtin "len") [Value.ref _]) _ _ _); k_dflt (refine' kun_lenL (News.isList ?zqa ?zqa2) ?zqb ?zqc ?_; (case zqa => k_asm); (case zqa2 => first | exact .head _ | exact .tail _ (.head _) | exact .tail _ (.tail _ (.head _)) | exact .tail _ (.tail _ (.tail _ (.head _))) | exact .tail _ (.tail _ (.tail _ (.tail _ (.head _))))); (case zqb => assumption); (case zqc => first | exact q9 ‹_› | omega); k_whole))) | (k_unfold; (try dsimp only)) | (k_end; wrow_close) | walk1 | (dsimp only; first | walk1 | (fail_if_success (fail_if_success (with_reducible show wpAny _ _ (call (Value.builtin "len") (_ :: _)) _ _ _))) | (fail_if_success (fail_if_success (with_reducible show wpAny _ _ (call (Value.ref _) (_ :: _)) _ _ _)))) | (leave1; walk_say "STEP leave1"; try dsimp only) | fail "no step"))
        · first | contradiction | (exfalso; omega)
        · refine Stop.mk ?_
          rename (News g _ _ _) => lN
          have lN5 := News.sub lN (inC (.tail _ (.head _)) (inC (.tail _ (.tail _ (.head _))) (inC (.tail _ (.tail _ (.tail _ (.head _)))) (inC (.head _) (inC (.tail _ (.tail _ (.tail _ (.tail _ (.head _))))) (inC (.tail _ (.tail _ (.tail _ (.tail _ (.tail _ (.head _)))))) (inC (.tail _ (.tail _ (.tail _ (.tail _ (.tail _ (.tail _ (.head _))))))) (inC (.tail _ (.tail _ (.tail _ (.tail _ (.tail _ (.tail _ (.tail _ (.head _)))))))) (inC (.tail _ (.tail _ (.tail _ (.tail _ (.tail _ (.tail _ (.tail _ (.tail _ (.head _))))))))) (inC (.tail _ (.tail _ (.tail _ (.tail _ (.tail _ (.tail _ (.tail _ (.tail _ (.tail _ (.head _)))))))))) (inC (.tail _ (.tail _ (.tail _ (.tail _ (.tail _ (.tail _ (.tail _ (.tail _ (.tail _ (.tail _ (.head _))))))))))) (fun p hp => (.tail _ (.tail _ (.tail _ (.tail _ (.tail _ (.tail _ (.tail _ (.tail _ (.tail _ (.tail _ (.tail _ (hp))))))))))))))))))))))))
          clear lN
          refine' read_item_c _ _ _ _ _ _ _ _ ds _ sp ?hsp ?hdl ?ts _ ?hes ?hdo _ _ _ ?hti ?d1 ?d2 ?d3 ?d5 ?d6 _ _ _ _ _ _ _ _ _ _ _ _ _ _ _ _ _ _ _ _ _ _ ?k1 ?k2 ?k3 ?k4 ?k5 ?kK ?kd ?ku ?_
          case k1 => k_asm
          case k2 => k_asm
          case k3 => k_asm
          case k4 => exact lN5
          case k5 => k_asm
          case kK => exact rfl
          case hsp => exact hspl
          case hdl => exact hdsz
          case hes => exact WD.ent
          case hdo => exact hdo
          case hti => exact hti2.mono fun p hp => (.tail _ (.tail _ (.tail _ (.tail _ (.tail _ (.tail _ (.tail _ (.tail _ (hp)))))))))
          case d1 => k_ne
          case d2 => k_ne
          case d3 => k_ne
          case d5 => exact List.forall_mem_cons.mpr ⟨by k_ne, List.forall_mem_cons.mpr ⟨by k_ne, List.forall_mem_cons.mpr ⟨by k_ne, List.forall_mem_cons.mpr ⟨by k_ne, List.forall_mem_cons.mpr ⟨by k_ne, List.forall_mem_cons.mpr ⟨by k_ne, List.forall_mem_cons.mpr ⟨by k_ne, List.forall_mem_cons.mpr ⟨by k_ne, hx2⟩⟩⟩⟩⟩⟩⟩⟩
          case d6 => exact List.forall_mem_cons.mpr ⟨by k_ne, List.forall_mem_cons.mpr ⟨by k_ne, List.forall_mem_cons.mpr ⟨by k_ne, List.forall_mem_cons.mpr ⟨by k_ne, List.forall_mem_cons.mpr ⟨by k_ne, List.forall_mem_cons.mpr ⟨by k_ne, List.forall_mem_cons.mpr ⟨by k_ne, List.forall_mem_cons.mpr ⟨by k_ne, hdx2⟩⟩⟩⟩⟩⟩⟩⟩
          case kd => ktr_room
          case ku => ktr_units
          refine ⟨fun d2 v hd2 hv => ?_, fun c hc => ?_⟩
          · obtain rfl : d = d2 := Option.some.inj (hd.symm.trans hd2)
            rename (valF kd _ = none) => hvf
            rw [hvf] at hv
            cases hv
          intro h4 g4 tk4 e de od hcd F4 U4 R4
          obtain ⟨hn, -⟩ | ⟨-, -, -, rfl⟩ := hc
          · rw [hd] at hn
            cases hn
          dsimp only
          (try (with_reducible show wpAny _ _ _ _ _ _)); (try k_fold)
          (try (with_reducible show wpAny _ _ _ _ _ _)); (try k_fold); (repeat' (first | ((fail_if_success (fail_if_success (with_reducible show wpAny _ _ (call (Value.ref _) (_ :: _)) _ _ _))); (k_here; k_dflt (first | (refine' law_value_c _ _ _ _ _ ?zqhx0 ?zqho0 _ _ _ _ _ _ _ _ _ _ _ _ _ _ _ _ _ _ _ _ _ _ _ ?zqk1 ?zqk2 ?zqk3 ?zqk4 ?zqk5 ?zqkK ?zqkd ?zqku ?_; (case zqk1 => k_asm); (case zqk2 => k_asm); (case zqk3 => k_asm); (case zqk4 => k_asm); (case zqk5 => k_asm); (case zqkK => first | exact rfl | assumption); (case zqhx0 => assumption); (case zqho0 => assumption); (case zqkd => ktr_room); (case zqku => ktr_units); refine ⟨fun hvf hkt => ?zqvn, fun hkt => ?zqvt, fun n9 hvf hkt => ?zqvi⟩ <;> (intro t9 h9 tk9 r9 e9 F9 N9; subst e9; (try dsimp only); (try k_fold))) | (refine Stop.out ?_)))) | ((fail_if_success (fail_if_success (with_reducible show wpAny _ _ (call (Value.builtin "len") (_ :: _)) _ _ _))); (k_here; (with_reducible show wpAny _ _ (call (Value.builtin "len") [Value.ref _]) _ _ _); k_dflt (refine' kun_lenL (News.isList ?zqa ?zqa2) ?zqb ?zqc ?_; (case zqa => k_asm); (case zqa2 => first | exact .head _ | exact .tail _ (.head _) | exact .tail _ (.tail _ (.head _)) | exact .tail _ (.tail _ (.tail _ (.head _))) | exact .tail _ (.tail _ (.tail _ (.tail _ (.head _))))); (case zqb => assumption); (case zqc => first | exact q9 ‹_› | omega); k_whole))) | (k_unfold; (try dsimp only)) | (k_end; wrow_close) | walk1 | (dsimp only; first | walk1 | (fail_if_success (fail_if_success (with_reducible show wpAny _ _ (call (Value.builtin "len") (_ :: _)) _ _ _))) | (fail_if_success (fail_if_success (with_reducible show wpAny _ _ (call (Value.ref _) (_ :: _)) _ _ _)))) | (leave1; walk_say "STEP leave1"; try dsimp only) | fail "no step"))
          refine Stop.mk ?_
          refine' caught_excX ?cR ?cF ?cK ?cH ?cX ?cT ?cD ?cT0 ?cE ?cQ ?_
          case cR => exact R4
          case cF => exact F4
          case cK => exact OB
          case cH => exact U4
          case cX => exact X
          case cT => exact T
          case cD => exact OD
          case cT0 => exact OT
          case cE => k_is
          case cQ => kts_isx
          intro h5 g5 oe tk5 OT5 F5 hcls hdi hnc N5 OB5 OX5 OP5 OD5
          clear F4 U4 R4 OT OB OX OP OD
          (try (with_reducible show wpAny _ _ _ _ _ _)); (try k_fold); (repeat' (first | ((fail_if_success (fail_if_success (with_reducible show wpAny _ _ (call (Value.ref _) (_ :: _)) _ _ _))); (k_here; k_dflt (first | (refine' law_value_c _ _ _ _ _ ?zqhx0 ?zqho0 _ _ _ _ _ _ _ _ _ _ _ _ _ _ _ _ _ _ _ _ _ _ _ ?zqk1 ?zqk2 ?zqk3 ?zqk4 ?zqk5 ?zqkK ?zqkd ?zqku ?_; (case zqk1 => k_asm); (case zqk2 => k_asm); (case zqk3 => k_asm); (case zqk4 => k_asm); (case zqk5 => k_asm); (case zqkK => first | exact rfl | assumption); (case zqhx0 => assumption); (case zqho0 => assumption); (case zqkd => ktr_room); (case zqku => ktr_units); refine ⟨fun hvf hkt => ?zqvn, fun hkt => ?zqvt, fun n9 hvf hkt => ?zqvi⟩ <;> (intro t9 h9 tk9 r9 e9 F9 N9; subst e9; (try dsimp only); (try k_fold))) | (refine Stop.out ?_)))) | ((fail_if_success (fail_if_success (with_reducible show wpAny _ _ (call (Value.builtin "len") (_ :: _)) _ _ _))); (k_here; (with_reducible show wpAny _ _ (call (Value.builtin "len") [Value.ref _]) _ _ _); k_dflt (refine' kun_lenL (News.isList ?zqa ?zqa2) ?zqb ?zqc ?_; (case zqa => k_asm); (case zqa2 => first | exact .head _ | exact .tail _ (.head _) | exact .tail _ (.tail _ (.head _)) | exact .tail _ (.tail _ (.tail _ (.head _))) | exact .tail _ (.tail _ (.tail _ (.tail _ (.head _))))); (case zqb => assumption); (case zqc => first | exact q9 ‹_› | omega); k_whole))) | (k_unfold; (try dsimp only)) | (k_end; wrow_close) | walk1 | (dsimp only; first | walk1 | (fail_if_success (fail_if_success (with_reducible show wpAny _ _ (call (Value.builtin "len") (_ :: _)) _ _ _))) | (fail_if_success (fail_if_success (with_reducible show wpAny _ _ (call (Value.ref _) (_ :: _)) _ _ _)))) | (leave1; walk_say "STEP leave1"; try dsimp only) | fail "no step"))
          refine Stop.mk ?_
          rename (Fr g5 _ _ _) => lF
          rename (News g5 _ _ _) => lN
          refine' code_get OX5 ?gF ?gN ?gm ?gd hcls hdi hnc hcd ?_
          case gF => exact lF
          case gN => exact lN
          case gm => first | exact .head _ | exact .tail _ (.head _)
          case gd => first | exact .tail _ (.head _) | exact .tail _ (.tail _ (.head _))
          intro tc
          (try (with_reducible show wpAny _ _ _ _ _ _)); (try k_fold); (repeat' (first | ((fail_if_success (fail_if_success (with_reducible show wpAny _ _ (call (Value.ref _) (_ :: _)) _ _ _))); (k_here; k_dflt (first | (refine' law_value_c _ _ _ _ _ ?zqhx0 ?zqho0 _ _ _ _ _ _ _ _ _ _ _ _ _ _ _ _ _ _ _ _ _ _ _ ?zqk1 ?zqk2 ?zqk3 ?zqk4 ?zqk5 ?zqkK ?zqkd ?zqku ?_; (case zqk1 => k_asm); (case zqk2 => k_asm); (case zqk3 => k_asm); (case zqk4 => k_asm); (case zqk5 => k_asm); (case zqkK => first | exact rfl | assumption); (case zqhx0 => assumption); (case zqho0 => assumption); (case zqkd => ktr_room); (case zqku => ktr_units); refine ⟨fun hvf hkt => ?zqvn, fun hkt => ?zqvt, fun n9 hvf hkt => ?zqvi⟩ <;> (intro t9 h9 tk9 r9 e9 F9 N9; subst e9; (try dsimp only); (try k_fold))) | (refine Stop.out ?_)))) | ((fail_if_success (fail_if_success (with_reducible show wpAny _ _ (call (Value.builtin "len") (_ :: _)) _ _ _))); (k_here; (with_reducible show wpAny _ _ (call (Value.builtin "len") [Value.ref _]) _ _ _); k_dflt (refine' kun_lenL (News.isList ?zqa ?zqa2) ?zqb ?zqc ?_; (case zqa => k_asm); (case zqa2 => first | exact .head _ | exact .tail _ (.head _) | exact .tail _ (.tail _ (.head _)) | exact .tail _ (.tail _ (.tail _ (.head _))) | exact .tail _ (.tail _ (.tail _ (.tail _ (.head _))))); (case zqb => assumption); (case zqc => first | exact q9 ‹_› | omega); k_whole))) | (k_unfold; (try dsimp only)) | (k_end; wrow_close) | walk1 | (dsimp only; first | walk1 | (fail_if_success (fail_if_success (with_reducible show wpAny _ _ (call (Value.builtin "len") (_ :: _)) _ _ _))) | (fail_if_success (fail_if_success (with_reducible show wpAny _ _ (call (Value.ref _) (_ :: _)) _ _ _)))) | (leave1; walk_say "STEP leave1"; try dsimp only) | fail "no step"))
          refine Stop.mk ?_
          rename (News g5 _ _ _) => lN6
          refine' ne_tup (reads_newDataT (News.isTup lN6 ?a) ?b) (reads_newDataT (News.isTup lN6 ?c) ?d) ?s ?f ?_
          case a => exact .head _
          case b => exact .cons (.str _ _) (.cons (.str _ _) .nil)
          case c => exact (.tail _ (.tail _ (.tail _ (.tail _ (.tail _ (.tail _ (.head _)))))))
          case d => exact .cons (.str _ _) (.cons (.str _ _) .nil)
          case s => exact shaped_two (flat_str (by decide +kernel)) (flat_str (by decide +kernel))
          case f => exact (Mine.rm2 hu rfl : un + 3 + 64 < cLine)
          (try (with_reducible show wpAny _ _ _ _ _ _)); (try k_fold); (repeat' (first | ((fail_if_success (fail_if_success (with_reducible show wpAny _ _ (call (Value.ref _) (_ :: _)) _ _ _))); (k_here; k_dflt (first | (refine' law_value_c _ _ _ _ _ ?zqhx0 ?zqho0 _ _ _ _ _ _ _ _ _ _ _ _ _ _ _ _ _ _ _ _ _ _ _ ?zqk1 ?zqk2 ?zqk3 ?zqk4 ?zqk5 ?zqkK ?zqkd ?zqku ?_; (case zqk1 => k_asm); (case zqk2 => k_asm); (case zqk3 => k_asm); (case zqk4 => k_asm); (case zqk5 => k_asm); (case zqkK => first | exact rfl | assumption); (case zqhx0 => assumption); (case zqho0 => assumption); (case zqkd => ktr_room); (case zqku => ktr_units); refine ⟨fun hvf hkt => ?zqvn, fun hkt => ?zqvt, fun n9 hvf hkt => ?zqvi⟩ <;> (intro t9 h9 tk9 r9 e9 F9 N9; subst e9; (try dsimp only); (try k_fold))) | (refine Stop.out ?_)))) | ((fail_if_success (fail_if_success (with_reducible show wpAny _ _ (call (Value.builtin "len") (_ :: _)) _ _ _))); (k_here; (with_reducible show wpAny _ _ (call (Value.builtin "len") [Value.ref _]) _ _ _); k_dflt (refine' kun_lenL (News.isList ?zqa ?zqa2) ?zqb ?zqc ?_; (case zqa => k_asm); (case zqa2 => first | exact .head _ | exact .tail _ (.head _) | exact .tail _ (.tail _ (.head _)) | exact .tail _ (.tail _ (.tail _ (.head _))) | exact .tail _ (.tail _ (.tail _ (.tail _ (.head _))))); (case zqb => assumption); (case zqc => first | exact q9 ‹_› | omega); k_whole))) | (k_unfold; (try dsimp only)) | (k_end; wrow_close) | walk1 | (dsimp only; first | walk1 | (fail_if_success (fail_if_success (with_reducible show wpAny _ _ (call (Value.builtin "len") (_ :: _)) _ _ _))) | (fail_if_success (fail_if_success (with_reducible show wpAny _ _ (call (Value.ref _) (_ :: _)) _ _ _)))) | (leave1; walk_say "STEP leave1"; try dsimp only) | fail "no step"))
          (first | exact absurd rfl ‹_› | exact absurd (Int.add_zero _).symm ‹_› | (exfalso; omega) | skip)
          rename (News g5 _ _ _) => hN
          exact ex5 ⟨sp, _, _, _, _, _, _⟩ g5 _ _ _ ⟨rfl, ⟨OT5, OB5, OX5, OP5, OD5⟩, by k_asm, News.sub hN (inC (.tail _ (.tail _ (.tail _ (.head _)))) (inC (.tail _ (.tail _ (.tail _ (.tail _ (.head _))))) (inC (.tail _ (.tail _ (.tail _ (.tail _ (.tail _ (.head _)))))) (inC (.tail _ (.tail _ (.tail _ (.tail _ (.tail _ (.tail _ (.tail _ (.head _)))))))) (inC (.tail _ (.tail _ (.tail _ (.tail _ (.tail _ (.tail _ (.tail _ (.tail _ (.head _))))))))) (inC (.tail _ (.tail _ (.tail _ (.tail _ (.tail _ (.tail _ (.tail _ (.tail _ (.tail _ (.head _)))))))))) (inC (.tail _ (.tail _ (.tail _ (.tail _ (.tail _ (.tail _ (.tail _ (.tail _ (.tail _ (.tail _ (.head _))))))))))) (inC (.tail _ (.tail _ (.tail _ (.tail _ (.tail _ (.tail _ (.tail _ (.tail _ (.tail _ (.tail _ (.tail _ (.head _)))))))))))) (inC (.tail _ (.tail _ (.tail _ (.tail _ (.tail _ (.tail _ (.tail _ (.tail _ (.tail _ (.tail _ (.tail _ (.tail _ (.head _))))))))))))) (inC (.tail _ (.tail _ (.tail _ (.tail _ (.tail _ (.tail _ (.tail _ (.tail _ (.tail _ (.tail _ (.tail _ (.tail _ (.tail _ (.head _)))))))))))))) (fun p hp => (.tail _ (.tail _ (.tail _ (.tail _ (.tail _ (.tail _ (.tail _ (.tail _ (.tail _ (.tail _ (.tail _ (.tail _ (.tail _ (.tail _ (hp)))))))))))))))))))))))))), ⟨rfl, rfl, trivial⟩, ⟨WD.of, by (try dsimp only) <;> omega, by (try dsimp only) <;> omega, by (try dsimp only) <;> omega, _, by assumption⟩⟩
        · refine Stop.mk ?_
          rename (News g _ _ _) => lN
          have lN5 := News.sub lN (inC (.tail _ (.head _)) (inC (.tail _ (.tail _ (.head _))) (inC (.tail _ (.tail _ (.tail _ (.head _)))) (inC (.head _) (inC (.tail _ (.tail _ (.tail _ (.tail _ (.head _))))) (inC (.tail _ (.tail _ (.tail _ (.tail _ (.tail _ (.head _)))))) (inC (.tail _ (.tail _ (.tail _ (.tail _ (.tail _ (.tail _ (.head _))))))) (inC (.tail _ (.tail _ (.tail _ (.tail _ (.tail _ (.tail _ (.tail _ (.head _)))))))) (inC (.tail _ (.tail _ (.tail _ (.tail _ (.tail _ (.tail _ (.tail _ (.tail _ (.head _))))))))) (inC (.tail _ (.tail _ (.tail _ (.tail _ (.tail _ (.tail _ (.tail _ (.tail _ (.tail _ (.head _)))))))))) (inC (.tail _ (.tail _ (.tail _ (.tail _ (.tail _ (.tail _ (.tail _ (.tail _ (.tail _ (.tail _ (.head _))))))))))) (fun p hp => (.tail _ (.tail _ (.tail _ (.tail _ (.tail _ (.tail _ (.tail _ (.tail _ (.tail _ (.tail _ (.tail _ (hp))))))))))))))))))))))))
          clear lN
          rename ((kd == _) = true) => hkt
          have hvf := (valF_text hkt : valF kd d.2 = _)
          refine' read_item_c _ _ _ _ _ _ _ _ ds _ sp ?hsp ?hdl ?ts _ ?hes ?hdo _ _ _ ?hti ?d1 ?d2 ?d3 ?d5 ?d6 _ _ _ _ _ _ _ _ _ _ _ _ _ _ _ _ _ _ _ _ _ _ ?k1 ?k2 ?k3 ?k4 ?k5 ?kK ?kd ?ku ?_
          case k1 => k_asm
          case k2 => k_asm
          case k3 => k_asm
          case k4 => exact lN5
          case k5 => k_asm
          case kK => exact rfl
          case hsp => exact hspl
          case hdl => exact hdsz
          case hes => exact WD.ent
          case hdo => exact hdo
          case hti => exact hti2.mono fun p hp => (.tail _ (.tail _ (.tail _ (.tail _ (.tail _ (.tail _ (.tail _ (.tail _ (hp)))))))))
          case d1 => k_ne
          case d2 => k_ne
          case d3 => k_ne
          case d5 => exact List.forall_mem_cons.mpr ⟨by k_ne, List.forall_mem_cons.mpr ⟨by k_ne, List.forall_mem_cons.mpr ⟨by k_ne, List.forall_mem_cons.mpr ⟨by k_ne, List.forall_mem_cons.mpr ⟨by k_ne, List.forall_mem_cons.mpr ⟨by k_ne, List.forall_mem_cons.mpr ⟨by k_ne, List.forall_mem_cons.mpr ⟨by k_ne, hx2⟩⟩⟩⟩⟩⟩⟩⟩
          case d6 => exact List.forall_mem_cons.mpr ⟨by k_ne, List.forall_mem_cons.mpr ⟨by k_ne, List.forall_mem_cons.mpr ⟨by k_ne, List.forall_mem_cons.mpr ⟨by k_ne, List.forall_mem_cons.mpr ⟨by k_ne, List.forall_mem_cons.mpr ⟨by k_ne, List.forall_mem_cons.mpr ⟨by k_ne, List.forall_mem_cons.mpr ⟨by k_ne, hdx2⟩⟩⟩⟩⟩⟩⟩⟩
          case kd => ktr_room
          case ku => ktr_units
          refine ⟨fun d2 v hd2 hv => ?_, fun c hc => ?_⟩
          rotate_left
          · obtain ⟨hn, -⟩ | ⟨d2, hd2, hv2, -⟩ := hc
            · rw [hd] at hn
              cases hn
            · obtain rfl : d = d2 := Option.some.inj (hd.symm.trans hd2)
              rw [hvf] at hv2
              cases hv2
          obtain rfl : d = d2 := Option.some.inj (hd.symm.trans hd2)
          rw [hvf] at hv
          obtain rfl := Option.some.inj hv
          intro h4 tk4 r es4 t4 hvr hes4 F4 N4
          obtain ⟨y, t, h1, rfl⟩ | ⟨n, t, h1, rfl⟩ := hvr
          rotate_left
          · cases h1
          cases h1
          obtain ⟨T4, U4, rfl⟩ := hes4.ex
          (try dsimp only at N4)
          dsimp only
          (try (with_reducible show wpAny _ _ _ _ _ _)); (try k_fold)
          (try (with_reducible show wpAny _ _ _ _ _ _)); (try k_fold); (repeat' (first | ((fail_if_success (fail_if_success (with_reducible show wpAny _ _ (call (Value.ref _) (_ :: _)) _ _ _))); (k_here; k_dflt (first | (refine' law_value_c _ _ _ _ _ ?zqhx0 ?zqho0 _ _ _ _ _ _ _ _ _ _ _ _ _ _ _ _ _ _ _ _ _ _ _ ?zqk1 ?zqk2 ?zqk3 ?zqk4 ?zqk5 ?zqkK ?zqkd ?zqku ?_; (case zqk1 => k_asm); (case zqk2 => k_asm); (case zqk3 => k_asm); (case zqk4 => k_asm); (case zqk5 => k_asm); (case zqkK => first | exact rfl | assumption); (case zqhx0 => assumption); (case zqho0 => assumption); (case zqkd => ktr_room); (case zqku => ktr_units); refine ⟨fun hvf hkt => ?zqvn, fun hkt => ?zqvt, fun n9 hvf hkt => ?zqvi⟩ <;> (intro t9 h9 tk9 r9 e9 F9 N9; subst e9; (try dsimp only); (try k_fold))) | (refine Stop.out ?_)))) | ((fail_if_success (fail_if_success (with_reducible show wpAny _ _ (call (Value.builtin "len") (_ :: _)) _ _ _))); (k_here; (with_reducible show wpAny _ _ (call (Value.builtin "len") [Value.ref _]) _ _ _); k_dflt (refine' kun_lenL (News.isList ?zqa ?zqa2) ?zqb ?zqc ?_; (case zqa => k_asm); (case zqa2 => first | exact .head _ | exact .tail _ (.head _) | exact .tail _ (.tail _ (.head _)) | exact .tail _ (.tail _ (.tail _ (.head _))) | exact .tail _ (.tail _ (.tail _ (.tail _ (.head _))))); (case zqb => assumption); (case zqc => first | exact q9 ‹_› | omega); k_whole))) | (k_unfold; (try dsimp only)) | (k_end; wrow_close) | walk1 | (dsimp only; first | walk1 | (fail_if_success (fail_if_success (with_reducible show wpAny _ _ (call (Value.builtin "len") (_ :: _)) _ _ _))) | (fail_if_success (fail_if_success (with_reducible show wpAny _ _ (call (Value.ref _) (_ :: _)) _ _ _)))) | (leave1; walk_say "STEP leave1"; try dsimp only) | fail "no step"))
          refine Stop.mk ?_
          rename (News g _ _ _) => lN6
          refine' ne_tup (reads_newDataT (News.isTup lN6 ?a) ?b) (reads_newDataT (News.isTup lN6 ?c) ?d) ?s ?f ?_
          case a => exact .head _
          case b => exact .cons (.str _ _) (.cons (.str _ _) .nil)
          case c => exact (.tail _ (.tail _ (.tail _ (.tail _ (.head _)))))
          case d => exact .cons (.str _ _) (.cons (.str _ _) .nil)
          case s => exact shaped_two (flat_str (by decide +kernel)) (flat_str hdo2)
          case f => exact (Mine.rm2 hu rfl : un + 3 + 64 < cLine)
          (try (with_reducible show wpAny _ _ _ _ _ _)); (try k_fold); (repeat' (first | ((fail_if_success (fail_if_success (with_reducible show wpAny _ _ (call (Value.ref _) (_ :: _)) _ _ _))); (k_here; k_dflt (first | (refine' law_value_c _ _ _ _ _ ?zqhx0 ?zqho0 _ _ _ _ _ _ _ _ _ _ _ _ _ _ _ _ _ _ _ _ _ _ _ ?zqk1 ?zqk2 ?zqk3 ?zqk4 ?zqk5 ?zqkK ?zqkd ?zqku ?_; (case zqk1 => k_asm); (case zqk2 => k_asm); (case zqk3 => k_asm); (case zqk4 => k_asm); (case zqk5 => k_asm); (case zqkK => first | exact rfl | assumption); (case zqhx0 => assumption); (case zqho0 => assumption); (case zqkd => ktr_room); (case zqku => ktr_units); refine ⟨fun hvf hkt => ?zqvn, fun hkt => ?zqvt, fun n9 hvf hkt => ?zqvi⟩ <;> (intro t9 h9 tk9 r9 e9 F9 N9; subst e9; (try dsimp only); (try k_fold))) | (refine Stop.out ?_)))) | ((fail_if_success (fail_if_success (with_reducible show wpAny _ _ (call (Value.builtin "len") (_ :: _)) _ _ _))); (k_here; (with_reducible show wpAny _ _ (call (Value.builtin "len") [Value.ref _]) _ _ _); k_dflt (refine' kun_lenL (News.isList ?zqa ?zqa2) ?zqb ?zqc ?_; (case zqa => k_asm); (case zqa2 => first | exact .head _ | exact .tail _ (.head _) | exact .tail _ (.tail _ (.head _)) | exact .tail _ (.tail _ (.tail _ (.head _))) | exact .tail _ (.tail _ (.tail _ (.tail _ (.head _))))); (case zqb => assumption); (case zqc => first | exact q9 ‹_› | omega); k_whole))) | (k_unfold; (try dsimp only)) | (k_end; wrow_close) | walk1 | (dsimp only; first | walk1 | (fail_if_success (fail_if_success (with_reducible show wpAny _ _ (call (Value.builtin "len") (_ :: _)) _ _ _))) | (fail_if_success (fail_if_success (with_reducible show wpAny _ _ (call (Value.ref _) (_ :: _)) _ _ _)))) | (leave1; walk_say "STEP leave1"; try dsimp only) | fail "no step"))
          (first | exact absurd rfl ‹_› | exact absurd (Int.add_zero _).symm ‹_› | (exfalso; omega) | skip)
          rename (News g _ _ _) => hN
          exact ex5 ⟨sp + 1, _, _, _, _, _, _⟩ g _ _ _ ⟨rfl, ⟨OT, OB, OX, OP, OD⟩, by k_asm, News.sub hN (inC (.tail _ (.head _)) (inC (.tail _ (.tail _ (.head _))) (inC (.tail _ (.tail _ (.tail _ (.head _)))) (inC (.tail _ (.tail _ (.tail _ (.tail _ (.tail _ (.head _)))))) (inC (.tail _ (.tail _ (.tail _ (.tail _ (.tail _ (.tail _ (.head _))))))) (inC (.tail _ (.tail _ (.tail _ (.tail _ (.tail _ (.tail _ (.tail _ (.head _)))))))) (inC (.tail _ (.tail _ (.tail _ (.tail _ (.tail _ (.tail _ (.tail _ (.tail _ (.head _))))))))) (inC (.tail _ (.tail _ (.tail _ (.tail _ (.tail _ (.tail _ (.tail _ (.tail _ (.tail _ (.head _)))))))))) (inC (.tail _ (.tail _ (.tail _ (.tail _ (.tail _ (.tail _ (.tail _ (.tail _ (.tail _ (.tail _ (.head _))))))))))) (inC (.tail _ (.tail _ (.tail _ (.tail _ (.tail _ (.tail _ (.tail _ (.tail _ (.tail _ (.tail _ (.tail _ (.head _)))))))))))) (fun p hp => (.tail _ (.tail _ (.tail _ (.tail _ (.tail _ (.tail _ (.tail _ (.tail _ (.tail _ (.tail _ (.tail _ (.tail _ (hp)))))))))))))))))))))))), ⟨rfl, rfl, trivial⟩, ⟨WD.of, by (try dsimp only) <;> omega, by (try dsimp only) <;> omega, by (try dsimp only) <;> omega, _, by assumption⟩⟩
        · refine Stop.mk ?_
          rename (News g _ _ _) => lN
          have lN5 := News.sub lN (inC (.tail _ (.head _)) (inC (.tail _ (.tail _ (.head _))) (inC (.tail _ (.tail _ (.tail _ (.head _)))) (inC (.head _) (inC (.tail _ (.tail _ (.tail _ (.tail _ (.head _))))) (inC (.tail _ (.tail _ (.tail _ (.tail _ (.tail _ (.head _)))))) (inC (.tail _ (.tail _ (.tail _ (.tail _ (.tail _ (.tail _ (.head _))))))) (inC (.tail _ (.tail _ (.tail _ (.tail _ (.tail _ (.tail _ (.tail _ (.head _)))))))) (inC (.tail _ (.tail _ (.tail _ (.tail _ (.tail _ (.tail _ (.tail _ (.tail _ (.head _))))))))) (inC (.tail _ (.tail _ (.tail _ (.tail _ (.tail _ (.tail _ (.tail _ (.tail _ (.tail _ (.head _)))))))))) (inC (.tail _ (.tail _ (.tail _ (.tail _ (.tail _ (.tail _ (.tail _ (.tail _ (.tail _ (.tail _ (.head _))))))))))) (fun p hp => (.tail _ (.tail _ (.tail _ (.tail _ (.tail _ (.tail _ (.tail _ (.tail _ (.tail _ (.tail _ (.tail _ (hp))))))))))))))))))))))))
          clear lN
          rename (valF kd _ = _) => hvf
          refine' read_item_c _ _ _ _ _ _ _ _ ds _ sp ?hsp ?hdl ?ts _ ?hes ?hdo _ _ _ ?hti ?d1 ?d2 ?d3 ?d5 ?d6 _ _ _ _ _ _ _ _ _ _ _ _ _ _ _ _ _ _ _ _ _ _ ?k1 ?k2 ?k3 ?k4 ?k5 ?kK ?kd ?ku ?_
          case k1 => k_asm
          case k2 => k_asm
          case k3 => k_asm
          case k4 => exact lN5
          case k5 => k_asm
          case kK => exact rfl
          case hsp => exact hspl
          case hdl => exact hdsz
          case hes => exact WD.ent
          case hdo => exact hdo
          case hti => exact hti2.mono fun p hp => (.tail _ (.tail _ (.tail _ (.tail _ (.tail _ (.tail _ (.tail _ (.tail _ (hp)))))))))
          case d1 => k_ne
          case d2 => k_ne
          case d3 => k_ne
          case d5 => exact List.forall_mem_cons.mpr ⟨by k_ne, List.forall_mem_cons.mpr ⟨by k_ne, List.forall_mem_cons.mpr ⟨by k_ne, List.forall_mem_cons.mpr ⟨by k_ne, List.forall_mem_cons.mpr ⟨by k_ne, List.forall_mem_cons.mpr ⟨by k_ne, List.forall_mem_cons.mpr ⟨by k_ne, List.forall_mem_cons.mpr ⟨by k_ne, hx2⟩⟩⟩⟩⟩⟩⟩⟩
          case d6 => exact List.forall_mem_cons.mpr ⟨by k_ne, List.forall_mem_cons.mpr ⟨by k_ne, List.forall_mem_cons.mpr ⟨by k_ne, List.forall_mem_cons.mpr ⟨by k_ne, List.forall_mem_cons.mpr ⟨by k_ne, List.forall_mem_cons.mpr ⟨by k_ne, List.forall_mem_cons.mpr ⟨by k_ne, List.forall_mem_cons.mpr ⟨by k_ne, hdx2⟩⟩⟩⟩⟩⟩⟩⟩
          case kd => ktr_room
          case ku => ktr_units
          refine ⟨fun d2 v hd2 hv => ?_, fun c hc => ?_⟩
          rotate_left
          · obtain ⟨hn, -⟩ | ⟨d2, hd2, hv2, -⟩ := hc
            · rw [hd] at hn
              cases hn
            · obtain rfl : d = d2 := Option.some.inj (hd.symm.trans hd2)
              rw [hvf] at hv2
              cases hv2
          obtain rfl : d = d2 := Option.some.inj (hd.symm.trans hd2)
          rw [hvf] at hv
          obtain rfl := Option.some.inj hv
          intro h4 tk4 r es4 t4 hvr hes4 F4 N4
          obtain ⟨y, t, h1, rfl⟩ | ⟨n, t, h1, rfl⟩ := hvr
          · cases h1
          cases h1
          obtain ⟨T4, U4, rfl⟩ := hes4.ex
          (try dsimp only at N4)
          dsimp only
          (try (with_reducible show wpAny _ _ _ _ _ _)); (try k_fold)
          (try (with_reducible show wpAny _ _ _ _ _ _)); (try k_fold); (repeat' (first | ((fail_if_success (fail_if_success (with_reducible show wpAny _ _ (call (Value.ref _) (_ :: _)) _ _ _))); (k_here; k_dflt (first | (refine' law_value_c _ _ _ _ _ ?zqhx0 ?zqho0 _ _ _ _ _ _ _ _ _ _ _ _ _ _ _ _ _ _ _ _ _ _ _ ?zqk1 ?zqk2 ?zqk3 ?zqk4 ?zqk5 ?zqkK ?zqkd ?zqku ?_; (case zqk1 => k_asm); (case zqk2 => k_asm); (case zqk3 => k_asm); (case zqk4 => k_asm); (case zqk5 => k_asm); (case zqkK => first | exact rfl | assumption); (case zqhx0 => assumption); (case zqho0 => assumption); (case zqkd => ktr_room); (case zqku => ktr_units); refine ⟨fun hvf hkt => ?zqvn, fun hkt => ?zqvt, fun n9 hvf hkt => ?zqvi⟩ <;> (intro t9 h9 tk9 r9 e9 F9 N9; subst e9; (try dsimp only); (try k_fold))) | (refine Stop.out ?_)))) | ((fail_if_success (fail_if_success (with_reducible show wpAny _ _ (call (Value.builtin "len") (_ :: _)) _ _ _))); (k_here; (with_reducible show wpAny _ _ (call (Value.builtin "len") [Value.ref _]) _ _ _); k_dflt (refine' kun_lenL (News.isList ?zqa ?zqa2) ?zqb ?zqc ?_; (case zqa => k_asm); (case zqa2 => first | exact .head _ | exact .tail _ (.head _) | exact .tail _ (.tail _ (.head _)) | exact .tail _ (.tail _ (.tail _ (.head _))) | exact .tail _ (.tail _ (.tail _ (.tail _ (.head _))))); (case zqb => assumption); (case zqc => first | exact q9 ‹_› | omega); k_whole))) | (k_unfold; (try dsimp only)) | (k_end; wrow_close) | walk1 | (dsimp only; first | walk1 | (fail_if_success (fail_if_success (with_reducible show wpAny _ _ (call (Value.builtin "len") (_ :: _)) _ _ _))) | (fail_if_success (fail_if_success (with_reducible show wpAny _ _ (call (Value.ref _) (_ :: _)) _ _ _)))) | (leave1; walk_say "STEP leave1"; try dsimp only) | fail "no step"))
          refine Stop.mk ?_
          rename (News g _ _ _) => lN6
          refine' ne_tup (reads_newDataT (News.isTup lN6 ?a) ?b) (reads_newDataT (News.isTup lN6 ?c) ?d) ?s ?f ?_
          case a => exact .head _
          case b => exact .cons (.str _ _) (.cons (.int _ _) .nil)
          case c => exact (.tail _ (.tail _ (.tail _ (.tail _ (.head _)))))
          case d => exact .cons (.str _ _) (.cons (.int _ _) .nil)
          case s => exact shaped_two (flat_str (by decide +kernel)) flat_int
          case f => exact (Mine.rm2 hu rfl : un + 3 + 64 < cLine)
          (try (with_reducible show wpAny _ _ _ _ _ _)); (try k_fold); (repeat' (first | ((fail_if_success (fail_if_success (with_reducible show wpAny _ _ (call (Value.ref _) (_ :: _)) _ _ _))); (k_here; k_dflt (first | (refine' law_value_c _ _ _ _ _ ?zqhx0 ?zqho0 _ _ _ _ _ _ _ _ _ _ _ _ _ _ _ _ _ _ _ _ _ _ _ ?zqk1 ?zqk2 ?zqk3 ?zqk4 ?zqk5 ?zqkK ?zqkd ?zqku ?_; (case zqk1 => k_asm); (case zqk2 => k_asm); (case zqk3 => k_asm); (case zqk4 => k_asm); (case zqk5 => k_asm); (case zqkK => first | exact rfl | assumption); (case zqhx0 => assumption); (case zqho0 => assumption); (case zqkd => ktr_room); (case zqku => ktr_units); refine ⟨fun hvf hkt => ?zqvn, fun hkt => ?zqvt, fun n9 hvf hkt => ?zqvi⟩ <;> (intro t9 h9 tk9 r9 e9 F9 N9; subst e9; (try dsimp only); (try k_fold))) | (refine Stop.out ?_)))) | ((fail_if_success (fail_if_success (with_reducible show wpAny _ _ (call (Value.builtin "len") (_ :: _)) _ _ _))); (k_here; (with_reducible show wpAny _ _ (call (Value.builtin "len") [Value.ref _]) _ _ _); k_dflt (refine' kun_lenL (News.isList ?zqa ?zqa2) ?zqb ?zqc ?_; (case zqa => k_asm); (case zqa2 => first | exact .head _ | exact .tail _ (.head _) | exact .tail _ (.tail _ (.head _)) | exact .tail _ (.tail _ (.tail _ (.head _))) | exact .tail _ (.tail _ (.tail _ (.tail _ (.head _))))); (case zqb => assumption); (case zqc => first | exact q9 ‹_› | omega); k_whole))) | (k_unfold; (try dsimp only)) | (k_end; wrow_close) | walk1 | (dsimp only; first | walk1 | (fail_if_success (fail_if_success (with_reducible show wpAny _ _ (call (Value.builtin "len") (_ :: _)) _ _ _))) | (fail_if_success (fail_if_success (with_reducible show wpAny _ _ (call (Value.ref _) (_ :: _)) _ _ _)))) | (leave1; walk_say "STEP leave1"; try dsimp only) | fail "no step"))
          (first | exact absurd rfl ‹_› | exact absurd (Int.add_zero _).symm ‹_› | (exfalso; omega) | skip)
          rename (News g _ _ _) => hN
          exact ex5 ⟨sp + 1, _, _, _, _, _, _⟩ g _ _ _ ⟨rfl, ⟨OT, OB, OX, OP, OD⟩, by k_asm, News.sub hN (inC (.tail _ (.head _)) (inC (.tail _ (.tail _ (.head _))) (inC (.tail _ (.tail _ (.tail _ (.head _)))) (inC (.tail _ (.tail _ (.tail _ (.tail _ (.tail _ (.head _)))))) (inC (.tail _ (.tail _ (.tail _ (.tail _ (.tail _ (.tail _ (.head _))))))) (inC (.tail _ (.tail _ (.tail _ (.tail _ (.tail _ (.tail _ (.tail _ (.head _)))))))) (inC (.tail _ (.tail _ (.tail _ (.tail _ (.tail _ (.tail _ (.tail _ (.tail _ (.head _))))))))) (inC (.tail _ (.tail _ (.tail _ (.tail _ (.tail _ (.tail _ (.tail _ (.tail _ (.tail _ (.head _)))))))))) (inC (.tail _ (.tail _ (.tail _ (.tail _ (.tail _ (.tail _ (.tail _ (.tail _ (.tail _ (.tail _ (.head _))))))))))) (inC (.tail _ (.tail _ (.tail _ (.tail _ (.tail _ (.tail _ (.tail _ (.tail _ (.tail _ (.tail _ (.tail _ (.head _)))))))))))) (fun p hp => (.tail _ (.tail _ (.tail _ (.tail _ (.tail _ (.tail _ (.tail _ (.tail _ (.tail _ (.tail _ (.tail _ (.tail _ (hp)))))))))))))))))))))))), ⟨rfl, rfl, trivial⟩, ⟨WD.of, by (try dsimp only) <;> omega, by (try dsimp only) <;> omega, by (try dsimp only) <;> omega, _, by assumption⟩⟩
    · refine Stop.mk ?_
      (rename (Fr _ _ _ _) => lF)
      (rename (News _ _ _ _) => lN)
      rename (¬ (Int.fmod _ 6 < 4)) => hge4
      have lN1 := ndrop (a := []) (b := [_]) lN
      simp only [List.nil_append] at lN1
      clear lN
      refine genEq (Int.fmod (Int.fdiv k 5) 6) ?_
      intro fm hfm
      rw [hfm] at hge4 lF
      (try rw [hfm])
      clear hfm
      refine' ev_prompt (fun y v => v = .none ∨ (∃ n t, v = .int n t ∧ (n = 10 ∨ n = 20 ∨ n = 30)) ∨ ∃ t, v = .int 15 t) ?F ?N ?prompt ?_
      case F => exact lF
      case N => exact lN1
      case prompt =>
        have so : StopOff := .mk
        (try (with_reducible show wpAny _ _ _ _ _ _)); (try k_fold); (repeat' (first | ((fail_if_success (fail_if_success (with_reducible show wpAny _ _ (call (Value.ref _) (_ :: _)) _ _ _))); (k_here; k_dflt (first | (refine' law_value_c _ _ _ _ _ ?zqhx0 ?zqho0 _ _ _ _ _ _ _ _ _ _ _ _ _ _ _ _ _ _ _ _ _ _ _ ?zqk1 ?zqk2 ?zqk3 ?zqk4 ?zqk5 ?zqkK ?zqkd ?zqku ?_; (case zqk1 => k_asm); (case zqk2 => k_asm); (case zqk3 => k_asm); (case zqk4 => k_asm); (case zqk5 => k_asm); (case zqkK => first | exact rfl | assumption); (case zqhx0 => assumption); (case zqho0 => assumption); (case zqkd => ktr_room); (case zqku => ktr_units); refine ⟨fun hvf hkt => ?zqvn, fun hkt => ?zqvt, fun n9 hvf hkt => ?zqvi⟩ <;> (intro t9 h9 tk9 r9 e9 F9 N9; subst e9; (try dsimp only); (try k_fold))) | (refine Stop.out ?_)))) | ((fail_if_success (fail_if_success (with_reducible show wpAny _ _ (call (Value.builtin "len") (_ :: _)) _ _ _))); (k_here; (with_reducible show wpAny _ _ (call (Value.builtin "len") [Value.ref _]) _ _ _); k_dflt (refine' kun_lenL (News.isList ?zqa ?zqa2) ?zqb ?zqc ?_; (case zqa => k_asm); (case zqa2 => first | exact .head _ | exact .tail _ (.head _) | exact .tail _ (.tail _ (.head _)) | exact .tail _ (.tail _ (.tail _ (.head _))) | exact .tail _ (.tail _ (.tail _ (.tail _ (.head _))))); (case zqb => assumption); (case zqc => first | exact q9 ‹_› | omega); k_whole))) | (k_unfold; (try dsimp only)) | (k_end; wrow_close) | walk1 | (dsimp only; first | walk1 | (fail_if_success (fail_if_success (with_reducible show wpAny _ _ (call (Value.builtin "len") (_ :: _)) _ _ _))) | (fail_if_success (fail_if_success (with_reducible show wpAny _ _ (call (Value.ref _) (_ :: _)) _ _ _)))) | (leave1; walk_say "STEP leave1"; try dsimp only) | fail "no step"))
        refine Stop.mk ?_
        rename (News _ _ _ _) => lN2
        rcases mod5 (Int.fdiv k 30) with hm9 | hm9 | hm9 | hm9 | hm9
        all_goals
          rw [hm9]
          (try (rename StopOff => so9; clear so9))
          (try (with_reducible show wpAny _ _ _ _ _ _)); (try k_fold); (repeat' (first | ((fail_if_success (fail_if_success (with_reducible show wpAny _ _ (call (Value.ref _) (_ :: _)) _ _ _))); (k_here; k_dflt (first | (refine' law_value_c _ _ _ _ _ ?zqhx0 ?zqho0 _ _ _ _ _ _ _ _ _ _ _ _ _ _ _ _ _ _ _ _ _ _ _ ?zqk1 ?zqk2 ?zqk3 ?zqk4 ?zqk5 ?zqkK ?zqkd ?zqku ?_; (case zqk1 => k_asm); (case zqk2 => k_asm); (case zqk3 => k_asm); (case zqk4 => k_asm); (case zqk5 => k_asm); (case zqkK => first | exact rfl | assumption); (case zqhx0 => assumption); (case zqho0 => assumption); (case zqkd => ktr_room); (case zqku => ktr_units); refine ⟨fun hvf hkt => ?zqvn, fun hkt => ?zqvt, fun n9 hvf hkt => ?zqvi⟩ <;> (intro t9 h9 tk9 r9 e9 F9 N9; subst e9; (try dsimp only); (try k_fold))) | (refine Stop.out ?_)))) | ((fail_if_success (fail_if_success (with_reducible show wpAny _ _ (call (Value.builtin "len") (_ :: _)) _ _ _))); (k_here; (with_reducible show wpAny _ _ (call (Value.builtin "len") [Value.ref _]) _ _ _); k_dflt (refine' kun_lenL (News.isList ?zqa ?zqa2) ?zqb ?zqc ?_; (case zqa => k_asm); (case zqa2 => first | exact .head _ | exact .tail _ (.head _) | exact .tail _ (.tail _ (.head _)) | exact .tail _ (.tail _ (.tail _ (.head _))) | exact .tail _ (.tail _ (.tail _ (.tail _ (.head _))))); (case zqb => assumption); (case zqc => first | exact q9 ‹_› | omega); k_whole))) | (k_unfold; (try dsimp only)) | (k_end; wrow_close) | walk1 | (dsimp only; first | walk1 | (fail_if_success (fail_if_success (with_reducible show wpAny _ _ (call (Value.builtin "len") (_ :: _)) _ _ _))) | (fail_if_success (fail_if_success (with_reducible show wpAny _ _ (call (Value.ref _) (_ :: _)) _ _ _)))) | (leave1; walk_say "STEP leave1"; try dsimp only) | fail "no step"))
          exact ⟨Str.ofString "", _, _, rfl, by (first | exact .inl rfl | exact .inr (.inr ⟨_, rfl⟩) | exact .inr (.inl ⟨_, _, rfl, by decide⟩)), by k_asm, ndrop (a := []) (b := [_]) lN2⟩
      rintro gv9 _ h3 tk3 hgv F3 N3
      clear lF lN1
      obtain rfl | ⟨n, tn, rfl, hn⟩ | ⟨tn, rfl⟩ := hgv
      · (try (with_reducible show wpAny _ _ _ _ _ _)); (try k_fold); (repeat' (first | ((fail_if_success (fail_if_success (with_reducible show wpAny _ _ (call (Value.ref _) (_ :: _)) _ _ _))); (k_here; k_dflt (first | (refine' law_value_c _ _ _ _ _ ?zqhx0 ?zqho0 _ _ _ _ _ _ _ _ _ _ _ _ _ _ _ _ _ _ _ _ _ _ _ ?zqk1 ?zqk2 ?zqk3 ?zqk4 ?zqk5 ?zqkK ?zqkd ?zqku ?_; (case zqk1 => k_asm); (case zqk2 => k_asm); (case zqk3 => k_asm); (case zqk4 => k_asm); (case zqk5 => k_asm); (case zqkK => first | exact rfl | assumption); (case zqhx0 => assumption); (case zqho0 => assumption); (case zqkd => ktr_room); (case zqku => ktr_units); refine ⟨fun hvf hkt => ?zqvn, fun hkt => ?zqvt, fun n9 hvf hkt => ?zqvi⟩ <;> (intro t9 h9 tk9 r9 e9 F9 N9; subst e9; (try dsimp only); (try k_fold))) | (refine Stop.out ?_)))) | ((fail_if_success (fail_if_success (with_reducible show wpAny _ _ (call (Value.builtin "len") (_ :: _)) _ _ _))); (k_here; (with_reducible show wpAny _ _ (call (Value.builtin "len") [Value.ref _]) _ _ _); k_dflt (refine' kun_lenL (News.isList ?zqa ?zqa2) ?zqb ?zqc ?_; (case zqa => k_asm); (case zqa2 => first | exact .head _ | exact .tail _ (.head _) | exact .tail _ (.tail _ (.head _)) | exact .tail _ (.tail _ (.tail _ (.head _))) | exact .tail _ (.tail _ (.tail _ (.tail _ (.head _))))); (case zqb => assumption); (case zqc => first | exact q9 ‹_› | omega); k_whole))) | (k_unfold; (try dsimp only)) | (k_end; wrow_close) | walk1 | (dsimp only; first | walk1 | (fail_if_success (fail_if_success (with_reducible show wpAny _ _ (call (Value.builtin "len") (_ :: _)) _ _ _))) | (fail_if_success (fail_if_success (with_reducible show wpAny _ _ (call (Value.ref _) (_ :: _)) _ _ _)))) | (leave1; walk_say "STEP leave1"; try dsimp only) | fail "no step"))
        refine Stop.mk ?_
        rename (Fr g _ _ _) => lF
        refine gc_eval lF (by with_unfolding_all rfl) (by decide) rfl (by decide) ?_
        (try (with_reducible show wpAny _ _ _ _ _ _)); (try k_fold); (repeat' (first | ((fail_if_success (fail_if_success (with_reducible show wpAny _ _ (call (Value.ref _) (_ :: _)) _ _ _))); (k_here; k_dflt (first | (refine' law_value_c _ _ _ _ _ ?zqhx0 ?zqho0 _ _ _ _ _ _ _ _ _ _ _ _ _ _ _ _ _ _ _ _ _ _ _ ?zqk1 ?zqk2 ?zqk3 ?zqk4 ?zqk5 ?zqkK ?zqkd ?zqku ?_; (case zqk1 => k_asm); (case zqk2 => k_asm); (case zqk3 => k_asm); (case zqk4 => k_asm); (case zqk5 => k_asm); (case zqkK => first | exact rfl | assumption); (case zqhx0 => assumption); (case zqho0 => assumption); (case zqkd => ktr_room); (case zqku => ktr_units); refine ⟨fun hvf hkt => ?zqvn, fun hkt => ?zqvt, fun n9 hvf hkt => ?zqvi⟩ <;> (intro t9 h9 tk9 r9 e9 F9 N9; subst e9; (try dsimp only); (try k_fold))) | (refine Stop.out ?_)))) | ((fail_if_success (fail_if_success (with_reducible show wpAny _ _ (call (Value.builtin "len") (_ :: _)) _ _ _))); (k_here; (with_reducible show wpAny _ _ (call (Value.builtin "len") [Value.ref _]) _ _ _); k_dflt (refine' kun_lenL (News.isList ?zqa ?zqa2) ?zqb ?zqc ?_; (case zqa => k_asm); (case zqa2 => first | exact .head _ | exact .tail _ (.head _) | exact .tail _ (.tail _ (.head _)) | exact .tail _ (.tail _ (.tail _ (.head _))) | exact .tail _ (.tail _ (.tail _ (.tail _ (.head _))))); (case zqb => assumption); (case zqc => first | exact q9 ‹_› | omega); k_whole))) | (k_unfold; (try dsimp only)) | (k_end; wrow_close) | walk1 | (dsimp only; first | walk1 | (fail_if_success (fail_if_success (with_reducible show wpAny _ _ (call (Value.builtin "len") (_ :: _)) _ _ _))) | (fail_if_success (fail_if_success (with_reducible show wpAny _ _ (call (Value.ref _) (_ :: _)) _ _ _)))) | (leave1; walk_say "STEP leave1"; try dsimp only) | fail "no step"))
        rename (Fr g _ _ _) => lF2
        rename (News g _ _ _) => lN
        refine' gs_pairs (fun _ ys => ys = []) ?hti ?hh ?F ?N ?hl ?hlL ?hsz ?htn ?hk ?hx ?hx2 ?hxx ?hj ?turn5 ?fin5
        case hti => exact hti2
        case hh => exact rfl
        case F => exact lF2
        case N => exact lN
        case hl => exact News.isList lN (.tail _ (.tail _ (.tail _ (.head _))))
        case hlL => exact (lN _ (.tail _ (.tail _ (.tail _ (.head _))))).2.1
        case hsz => rw [sizeLine_eq]; exact Nat.le_trans hdsz (by decide)
        case htn => exact fun p hp => (.tail _ (.tail _ (.tail _ (.tail _ (.tail _ (.tail _ (.tail _ (.tail _ (.tail _ (.tail _ (.tail _ (hp))))))))))))
        case hk => exact rfl
        case hx => exact rfl
        case hx2 => exact rfl
        case hxx => decide
        case hj => exact rfl
        case turn5 =>
          rintro s' ⟨hp', rfl⟩
          intro i2 ys nx C oC D2 m₂ own h7 tk7 E' hi hPP hJ hoC F7 N7
          obtain ⟨rfl, hJ⟩ := hJ
          obtain ⟨_, _, ⟨d, t8, u8, hd8, rfl, rfl⟩, hm1, hm2⟩ := hPP
          clear lF2 lN
          simp only [List.cons_append] at N7
          dsimp only
          (try (with_reducible show wpAny _ _ _ _ _ _)); (try k_fold)
          (try (with_reducible show wpAny _ _ _ _ _ _)); (try k_fold); (repeat' (first | ((fail_if_success (fail_if_success (with_reducible show wpAny _ _ (call (Value.ref _) (_ :: _)) _ _ _))); (k_here; k_dflt (first | (refine' law_value_c _ _ _ _ _ ?zqhx0 ?zqho0 _ _ _ _ _ _ _ _ _ _ _ _ _ _ _ _ _ _ _ _ _ _ _ ?zqk1 ?zqk2 ?zqk3 ?zqk4 ?zqk5 ?zqkK ?zqkd ?zqku ?_; (case zqk1 => k_asm); (case zqk2 => k_asm); (case zqk3 => k_asm); (case zqk4 => k_asm); (case zqk5 => k_asm); (case zqkK => first | exact rfl | assumption); (case zqhx0 => assumption); (case zqho0 => assumption); (case zqkd => ktr_room); (case zqku => ktr_units); refine ⟨fun hvf hkt => ?zqvn, fun hkt => ?zqvt, fun n9 hvf hkt => ?zqvi⟩ <;> (intro t9 h9 tk9 r9 e9 F9 N9; subst e9; (try dsimp only); (try k_fold))) | (refine Stop.out ?_)))) | ((fail_if_success (fail_if_success (with_reducible show wpAny _ _ (call (Value.builtin "len") (_ :: _)) _ _ _))); (k_here; (with_reducible show wpAny _ _ (call (Value.builtin "len") [Value.ref _]) _ _ _); k_dflt (refine' kun_lenL (News.isList ?zqa ?zqa2) ?zqb ?zqc ?_; (case zqa => k_asm); (case zqa2 => first | exact .head _ | exact .tail _ (.head _) | exact .tail _ (.tail _ (.head _)) | exact .tail _ (.tail _ (.tail _ (.head _))) | exact .tail _ (.tail _ (.tail _ (.tail _ (.head _))))); (case zqb => assumption); (case zqc => first | exact q9 ‹_› | omega); k_whole))) | (k_unfold; (try dsimp only)) | (k_end; wrow_close) | walk1 | (dsimp only; first | walk1 | (fail_if_success (fail_if_success (with_reducible show wpAny _ _ (call (Value.builtin "len") (_ :: _)) _ _ _))) | (fail_if_success (fail_if_success (with_reducible show wpAny _ _ (call (Value.ref _) (_ :: _)) _ _ _)))) | (leave1; walk_say "STEP leave1"; try dsimp only) | fail "no step"))
          exact ⟨_, _, _, rfl, by k_asm, by k_asm, fun p hp => .inl ⟨p, hp, rfl⟩, rfl, hJ⟩
        case fin5 =>
          rintro s' ⟨hp', rfl⟩
          intro D2 ys hD2 hJ
          intro h7 tk7 F7 N7
          clear lF2 lN
          dsimp only [AllLt] at hD2
          have hszy : (ys.toArray.size : Int) = ((0 : Nat) : Int) := by rw [hJ]; rfl
          (try (with_reducible show wpAny _ _ _ _ _ _)); (try k_fold); (repeat' (first | ((fail_if_success (fail_if_success (with_reducible show wpAny _ _ (call (Value.ref _) (_ :: _)) _ _ _))); (k_here; k_dflt (first | (refine' law_value_c _ _ _ _ _ ?zqhx0 ?zqho0 _ _ _ _ _ _ _ _ _ _ _ _ _ _ _ _ _ _ _ _ _ _ _ ?zqk1 ?zqk2 ?zqk3 ?zqk4 ?zqk5 ?zqkK ?zqkd ?zqku ?_; (case zqk1 => k_asm); (case zqk2 => k_asm); (case zqk3 => k_asm); (case zqk4 => k_asm); (case zqk5 => k_asm); (case zqkK => first | exact rfl | assumption); (case zqhx0 => assumption); (case zqho0 => assumption); (case zqkd => ktr_room); (case zqku => ktr_units); refine ⟨fun hvf hkt => ?zqvn, fun hkt => ?zqvt, fun n9 hvf hkt => ?zqvi⟩ <;> (intro t9 h9 tk9 r9 e9 F9 N9; subst e9; (try dsimp only); (try k_fold))) | (refine Stop.out ?_)))) | ((fail_if_success (fail_if_success (with_reducible show wpAny _ _ (call (Value.builtin "len") (_ :: _)) _ _ _))); (k_here; (with_reducible show wpAny _ _ (call (Value.builtin "len") [Value.ref _]) _ _ _); k_dflt (refine' kun_lenL (News.isList ?zqa ?zqa2) ?zqb ?zqc ?_; (case zqa => k_asm); (case zqa2 => first | exact .head _ | exact .tail _ (.head _) | exact .tail _ (.tail _ (.head _)) | exact .tail _ (.tail _ (.tail _ (.head _))) | exact .tail _ (.tail _ (.tail _ (.tail _ (.head _))))); (case zqb => assumption); (case zqc => first | exact q9 ‹_› | omega); k_whole))) | (k_unfold; (try dsimp only)) | (k_end; wrow_close) | walk1 | (dsimp only; first | walk1 | (fail_if_success (fail_if_success (with_reducible show wpAny _ _ (call (Value.builtin "len") (_ :: _)) _ _ _))) | (fail_if_success (fail_if_success (with_reducible show wpAny _ _ (call (Value.ref _) (_ :: _)) _ _ _)))) | (leave1; walk_say "STEP leave1"; try dsimp only) | fail "no step"))
          refine Stop.mk ?_
          rename (News g _ _ _) => lN
          have lN5 := News.sub lN (inC (.tail _ (.tail _ (.head _))) (inC (.tail _ (.tail _ (.tail _ (.head _)))) (inC (.tail _ (.tail _ (.tail _ (.tail _ (.head _))))) (inC (.tail _ (.tail _ (.tail _ (.tail _ (.tail _ (.head _)))))) (inC (.tail _ (.head _)) (inC (.tail _ (.tail _ (.tail _ (.tail _ (.tail _ (.tail _ (.head _))))))) (inC (.tail _ (.tail _ (.tail _ (.tail _ (.tail _ (.tail _ (.tail _ (.head _)))))))) (inC (.tail _ (.tail _ (.tail _ (.tail _ (.tail _ (.tail _ (.tail _ (.tail _ (.head _))))))))) (inC (.tail _ (.tail _ (.tail _ (.tail _ (.tail _ (.tail _ (.tail _ (.tail _ (.tail _ (.head _)))))))))) (inC (.tail _ (.tail _ (.tail _ (.tail _ (.tail _ (.tail _ (.tail _ (.tail _ (.tail _ (.tail _ (.head _))))))))))) (inC (.tail _ (.tail _ (.tail _ (.tail _ (.tail _ (.tail _ (.tail _ (.tail _ (.tail _ (.tail _ (.tail _ (.head _)))))))))))) (fun p hp => (.tail _ (.tail _ (.tail _ (.tail _ (.tail _ (.tail _ (.tail _ (.tail _ (.tail _ (.tail _ (.tail _ (.tail _ (hp)))))))))))))))))))))))))
          clear lN
          refine' restore_c _ _ _ _ _ _ _ _ _ _ ds _ ?hdl _ ?hes _ _ ?hlv none _ ?hgv _ ?hti ?d1 ?d2 ?d3 ?d7 ?d8 ?d5 ?d6 _ _ _ _ _ _ _ _ _ _ _ _ _ _ _ _ _ _ _ _ _ _ ?k1 ?k2 ?k3 ?k4 ?k5 ?kK ?kd ?ku ?_
          case k1 => k_asm
          case k2 => k_asm
          case k3 => k_asm
          case k4 => exact lN5
          case k5 => k_asm
          case kK => exact rfl
          case hdl => exact hdsz
          case hes => exact WD.ent
          case hlv => exact .cons _ _ (.cons _ _ (.cons _ _ .nil))
          case hgv => first | exact .inl ⟨rfl, rfl⟩ | exact .inr ⟨_, _, rfl, rfl⟩
          case hti => exact hti2.mono fun p hp => (.tail _ (.tail _ (.tail _ (.tail _ (.tail _ (.tail _ (.tail _ (hp))))))))
          case d1 => k_ne
          case d2 => k_ne
          case d3 => k_ne
          case d7 => k_ne
          case d8 => k_ne
          case d5 => exact List.forall_mem_cons.mpr ⟨by k_ne, List.forall_mem_cons.mpr ⟨by k_ne, List.forall_mem_cons.mpr ⟨by k_ne, List.forall_mem_cons.mpr ⟨by k_ne, List.forall_mem_cons.mpr ⟨by k_ne, List.forall_mem_cons.mpr ⟨by k_ne, List.forall_mem_cons.mpr ⟨by k_ne, hx2⟩⟩⟩⟩⟩⟩⟩
          case d6 => exact List.forall_mem_cons.mpr ⟨by k_ne, List.forall_mem_cons.mpr ⟨by k_ne, List.forall_mem_cons.mpr ⟨by k_ne, List.forall_mem_cons.mpr ⟨by k_ne, List.forall_mem_cons.mpr ⟨by k_ne, List.forall_mem_cons.mpr ⟨by k_ne, List.forall_mem_cons.mpr ⟨by k_ne, hdx2⟩⟩⟩⟩⟩⟩⟩
          case kd => ktr_room
          case ku => ktr_units
          refine ⟨fun R hR => ?_, fun hU => ?_⟩
          rotate_left
          · obtain ⟨n2, hn2, -⟩ := hU
            cases hn2
          obtain ⟨-, rfl⟩ | ⟨n2, hn2, -⟩ := hR
          rotate_left
          · cases hn2
          intro h4 tk4 es4 t4 hes4 F4 N4
          obtain ⟨T4, U4, rfl⟩ := hes4.ex
          (try dsimp only at N4)
          dsimp only
          (try (with_reducible show wpAny _ _ _ _ _ _)); (try k_fold)
          (try (with_reducible show wpAny _ _ _ _ _ _)); (try k_fold); (repeat' (first | ((fail_if_success (fail_if_success (with_reducible show wpAny _ _ (call (Value.ref _) (_ :: _)) _ _ _))); (k_here; k_dflt (first | (refine' law_value_c _ _ _ _ _ ?zqhx0 ?zqho0 _ _ _ _ _ _ _ _ _ _ _ _ _ _ _ _ _ _ _ _ _ _ _ ?zqk1 ?zqk2 ?zqk3 ?zqk4 ?zqk5 ?zqkK ?zqkd ?zqku ?_; (case zqk1 => k_asm); (case zqk2 => k_asm); (case zqk3 => k_asm); (case zqk4 => k_asm); (case zqk5 => k_asm); (case zqkK => first | exact rfl | assumption); (case zqhx0 => assumption); (case zqho0 => assumption); (case zqkd => ktr_room); (case zqku => ktr_units); refine ⟨fun hvf hkt => ?zqvn, fun hkt => ?zqvt, fun n9 hvf hkt => ?zqvi⟩ <;> (intro t9 h9 tk9 r9 e9 F9 N9; subst e9; (try dsimp only); (try k_fold))) | (refine Stop.out ?_)))) | ((fail_if_success (fail_if_success (with_reducible show wpAny _ _ (call (Value.builtin "len") (_ :: _)) _ _ _))); (k_here; (with_reducible show wpAny _ _ (call (Value.builtin "len") [Value.ref _]) _ _ _); k_dflt (refine' kun_lenL (News.isList ?zqa ?zqa2) ?zqb ?zqc ?_; (case zqa => k_asm); (case zqa2 => first | exact .head _ | exact .tail _ (.head _) | exact .tail _ (.tail _ (.head _)) | exact .tail _ (.tail _ (.tail _ (.head _))) | exact .tail _ (.tail _ (.tail _ (.tail _ (.head _))))); (case zqb => assumption); (case zqc => first | exact q9 ‹_› | omega); k_whole))) | (k_unfold; (try dsimp only)) | (k_end; wrow_close) | walk1 | (dsimp only; first | walk1 | (fail_if_success (fail_if_success (with_reducible show wpAny _ _ (call (Value.builtin "len") (_ :: _)) _ _ _))) | (fail_if_success (fail_if_success (with_reducible show wpAny _ _ (call (Value.ref _) (_ :: _)) _ _ _)))) | (leave1; walk_say "STEP leave1"; try dsimp only) | fail "no step"))
          refine Stop.mk ?_
          rename (News g _ _ _) => lN6
          refine' ne_tup (reads_newDataT (News.isTup lN6 ?a) ?b) (reads_newDataT (News.isTup lN6 ?c) ?d) ?s ?f ?_
          case a => exact .head _
          case b => exact .cons (.str _ _) (.cons .none .nil)
          case c => exact (.tail _ (.tail _ (.tail _ (.tail _ (.tail _ (.head _))))))
          case d => exact .cons (.str _ _) (.cons .none .nil)
          case s => exact shaped_two (flat_str (by decide +kernel)) flat_none
          case f => exact (Mine.rm2 hu rfl : un + 3 + 64 < cLine)
          (try (with_reducible show wpAny _ _ _ _ _ _)); (try k_fold); (repeat' (first | ((fail_if_success (fail_if_success (with_reducible show wpAny _ _ (call (Value.ref _) (_ :: _)) _ _ _))); (k_here; k_dflt (first | (refine' law_value_c _ _ _ _ _ ?zqhx0 ?zqho0 _ _ _ _ _ _ _ _ _ _ _ _ _ _ _ _ _ _ _ _ _ _ _ ?zqk1 ?zqk2 ?zqk3 ?zqk4 ?zqk5 ?zqkK ?zqkd ?zqku ?_; (case zqk1 => k_asm); (case zqk2 => k_asm); (case zqk3 => k_asm); (case zqk4 => k_asm); (case zqk5 => k_asm); (case zqkK => first | exact rfl | assumption); (case zqhx0 => assumption); (case zqho0 => assumption); (case zqkd => ktr_room); (case zqku => ktr_units); refine ⟨fun hvf hkt => ?zqvn, fun hkt => ?zqvt, fun n9 hvf hkt => ?zqvi⟩ <;> (intro t9 h9 tk9 r9 e9 F9 N9; subst e9; (try dsimp only); (try k_fold))) | (refine Stop.out ?_)))) | ((fail_if_success (fail_if_success (with_reducible show wpAny _ _ (call (Value.builtin "len") (_ :: _)) _ _ _))); (k_here; (with_reducible show wpAny _ _ (call (Value.builtin "len") [Value.ref _]) _ _ _); k_dflt (refine' kun_lenL (News.isList ?zqa ?zqa2) ?zqb ?zqc ?_; (case zqa => k_asm); (case zqa2 => first | exact .head _ | exact .tail _ (.head _) | exact .tail _ (.tail _ (.head _)) | exact .tail _ (.tail _ (.tail _ (.head _))) | exact .tail _ (.tail _ (.tail _ (.tail _ (.head _))))); (case zqb => assumption); (case zqc => first | exact q9 ‹_› | omega); k_whole))) | (k_unfold; (try dsimp only)) | (k_end; wrow_close) | walk1 | (dsimp only; first | walk1 | (fail_if_success (fail_if_success (with_reducible show wpAny _ _ (call (Value.builtin "len") (_ :: _)) _ _ _))) | (fail_if_success (fail_if_success (with_reducible show wpAny _ _ (call (Value.ref _) (_ :: _)) _ _ _)))) | (leave1; walk_say "STEP leave1"; try dsimp only) | fail "no step"))
          (first | exact absurd rfl ‹_› | exact absurd (Int.add_zero _).symm ‹_› | (exfalso; omega) | skip)
          rename (News g _ _ _) => hN
          exact ex5 ⟨0, _, _, _, _, _, _⟩ g _ _ _ ⟨rfl, ⟨OT, OB, OX, OP, OD⟩, by k_asm, News.sub hN (inC (.tail _ (.head _)) (inC (.tail _ (.tail _ (.head _))) (inC (.tail _ (.tail _ (.tail _ (.head _)))) (inC (.tail _ (.tail _ (.tail _ (.tail _ (.head _))))) (inC (.tail _ (.tail _ (.tail _ (.tail _ (.tail _ (.tail _ (.head _))))))) (inC (.tail _ (.tail _ (.tail _ (.tail _ (.tail _ (.tail _ (.tail _ (.head _)))))))) (inC (.tail _ (.tail _ (.tail _ (.tail _ (.tail _ (.tail _ (.tail _ (.tail _ (.head _))))))))) (inC (.tail _ (.tail _ (.tail _ (.tail _ (.tail _ (.tail _ (.tail _ (.tail _ (.tail _ (.head _)))))))))) (inC (.tail _ (.tail _ (.tail _ (.tail _ (.tail _ (.tail _ (.tail _ (.tail _ (.tail _ (.tail _ (.head _))))))))))) (inC (.tail _ (.tail _ (.tail _ (.tail _ (.tail _ (.tail _ (.tail _ (.tail _ (.tail _ (.tail _ (.tail _ (.head _)))))))))))) (fun p hp => (.tail _ (.tail _ (.tail _ (.tail _ (.tail _ (.tail _ (.tail _ (.tail _ (.tail _ (.tail _ (.tail _ (.tail _ (hp)))))))))))))))))))))))), ⟨rfl, rfl, trivial⟩, ⟨WD.of, by (try dsimp only) <;> omega, by (try dsimp only) <;> omega, by (try dsimp only) <;> omega, _, by assumption⟩⟩
      · (try (with_reducible show wpAny _ _ _ _ _ _)); (try k_fold); (repeat' (first | ((fail_if_success (fail_if_success (with_reducible show wpAny _ _ (call (Value.ref _) (_ :: _)) _ _ _))); (k_here; k_dflt (first | (refine' law_value_c _ _ _ _ _ ?zqhx0 ?zqho0 _ _ _ _ _ _ _ _ _ _ _ _ _ _ _ _ _ _ _ _ _ _ _ ?zqk1 ?zqk2 ?zqk3 ?zqk4 ?zqk5 ?zqkK ?zqkd ?zqku ?_; (case zqk1 => k_asm); (case zqk2 => k_asm); (case zqk3 => k_asm); (case zqk4 => k_asm); (case zqk5 => k_asm); (case zqkK => first | exact rfl | assumption); (case zqhx0 => assumption); (case zqho0 => assumption); (case zqkd => ktr_room); (case zqku => ktr_units); refine ⟨fun hvf hkt => ?zqvn, fun hkt => ?zqvt, fun n9 hvf hkt => ?zqvi⟩ <;> (intro t9 h9 tk9 r9 e9 F9 N9; subst e9; (try dsimp only); (try k_fold))) | (refine Stop.out ?_)))) | ((fail_if_success (fail_if_success (with_reducible show wpAny _ _ (call (Value.builtin "len") (_ :: _)) _ _ _))); (k_here; (with_reducible show wpAny _ _ (call (Value.builtin "len") [Value.ref _]) _ _ _); k_dflt (refine' kun_lenL (News.isList ?zqa ?zqa2) ?zqb ?zqc ?_; (case zqa => k_asm); (case zqa2 => first | exact .head _ | exact .tail _ (.head _) | exact .tail _ (.tail _ (.head _)) | exact .tail _ (.tail _ (.tail _ (.head _))) | exact .tail _ (.tail _ (.tail _ (.tail _ (.head _))))); (case zqb => assumption); (case zqc => first | exact q9 ‹_› | omega); k_whole))) | (k_unfold; (try dsimp only)) | (k_end; wrow_close) | walk1 | (dsimp only; first | walk1 | (fail_if_success (fail_if_success (with_reducible show wpAny _ _ (call (Value.builtin "len") (_ :: _)) _ _ _))) | (fail_if_success (fail_if_success (with_reducible show wpAny _ _ (call (Value.ref _) (_ :: _)) _ _ _)))) | (leave1; walk_say "STEP leave1"; try dsimp only) | fail "no step"))
        · first | contradiction | (exfalso; omega)
        · refine Stop.mk ?_
          rename (Fr g _ _ _) => lF
          refine gc_eval lF (by with_unfolding_all rfl) (by decide) rfl (by decide) ?_
          (try (with_reducible show wpAny _ _ _ _ _ _)); (try k_fold); (repeat' (first | ((fail_if_success (fail_if_success (with_reducible show wpAny _ _ (call (Value.ref _) (_ :: _)) _ _ _))); (k_here; k_dflt (first | (refine' law_value_c _ _ _ _ _ ?zqhx0 ?zqho0 _ _ _ _ _ _ _ _ _ _ _ _ _ _ _ _ _ _ _ _ _ _ _ ?zqk1 ?zqk2 ?zqk3 ?zqk4 ?zqk5 ?zqkK ?zqkd ?zqku ?_; (case zqk1 => k_asm); (case zqk2 => k_asm); (case zqk3 => k_asm); (case zqk4 => k_asm); (case zqk5 => k_asm); (case zqkK => first | exact rfl | assumption); (case zqhx0 => assumption); (case zqho0 => assumption); (case zqkd => ktr_room); (case zqku => ktr_units); refine ⟨fun hvf hkt => ?zqvn, fun hkt => ?zqvt, fun n9 hvf hkt => ?zqvi⟩ <;> (intro t9 h9 tk9 r9 e9 F9 N9; subst e9; (try dsimp only); (try k_fold))) | (refine Stop.out ?_)))) | ((fail_if_success (fail_if_success (with_reducible show wpAny _ _ (call (Value.builtin "len") (_ :: _)) _ _ _))); (k_here; (with_reducible show wpAny _ _ (call (Value.builtin "len") [Value.ref _]) _ _ _); k_dflt (refine' kun_lenL (News.isList ?zqa ?zqa2) ?zqb ?zqc ?_; (case zqa => k_asm); (case zqa2 => first | exact .head _ | exact .tail _ (.head _) | exact .tail _ (.tail _ (.head _)) | exact .tail _ (.tail _ (.tail _ (.head _))) | exact .tail _ (.tail _ (.tail _ (.tail _ (.head _))))); (case zqb => assumption); (case zqc => first | exact q9 ‹_› | omega); k_whole))) | (k_unfold; (try dsimp only)) | (k_end; wrow_close) | walk1 | (dsimp only; first | walk1 | (fail_if_success (fail_if_success (with_reducible show wpAny _ _ (call (Value.builtin "len") (_ :: _)) _ _ _))) | (fail_if_success (fail_if_success (with_reducible show wpAny _ _ (call (Value.ref _) (_ :: _)) _ _ _)))) | (leave1; walk_say "STEP leave1"; try dsimp only) | fail "no step"))
          rename (Fr g _ _ _) => lF2
          rename (News g _ _ _) => lN
          refine' gs_pairs (fun i ys => ys.length = ((ds.take i).filter fun d => decide (d.1 < n)).length) ?hti ?hh ?F ?N ?hl ?hlL ?hsz ?htn ?hk ?hx ?hx2 ?hxx ?hj ?turn5 ?fin5
          case hti => exact hti2
          case hh => exact rfl
          case F => exact lF2
          case N => exact lN
          case hl => exact News.isList lN (.tail _ (.tail _ (.tail _ (.head _))))
          case hlL => exact (lN _ (.tail _ (.tail _ (.tail _ (.head _))))).2.1
          case hsz => rw [sizeLine_eq]; exact Nat.le_trans hdsz (by decide)
          case htn => exact fun p hp => (.tail _ (.tail _ (.tail _ (.tail _ (.tail _ (.tail _ (.tail _ (.tail _ (.tail _ (.tail _ (.tail _ (hp))))))))))))
          case hk => exact rfl
          case hx => exact rfl
          case hx2 => exact rfl
          case hxx => decide
          case hj => exact rfl
          case turn5 =>
            rintro s' ⟨hp', rfl⟩
            intro i2 ys nx C oC D2 m₂ own h7 tk7 E' hi hPP hJ hoC F7 N7
            obtain ⟨rfl, hJ⟩ := hJ
            obtain ⟨_, _, ⟨d, t8, u8, hd8, rfl, rfl⟩, hm1, hm2⟩ := hPP
            clear lF2 lN
            simp only [List.cons_append] at N7
            dsimp only
            (try (with_reducible show wpAny _ _ _ _ _ _)); (try k_fold)
            (try (with_reducible show wpAny _ _ _ _ _ _)); (try k_fold); (repeat' (first | ((fail_if_success (fail_if_success (with_reducible show wpAny _ _ (call (Value.ref _) (_ :: _)) _ _ _))); (k_here; k_dflt (first | (refine' law_value_c _ _ _ _ _ ?zqhx0 ?zqho0 _ _ _ _ _ _ _ _ _ _ _ _ _ _ _ _ _ _ _ _ _ _ _ ?zqk1 ?zqk2 ?zqk3 ?zqk4 ?zqk5 ?zqkK ?zqkd ?zqku ?_; (case zqk1 => k_asm); (case zqk2 => k_asm); (case zqk3 => k_asm); (case zqk4 => k_asm); (case zqk5 => k_asm); (case zqkK => first | exact rfl | assumption); (case zqhx0 => assumption); (case zqho0 => assumption); (case zqkd => ktr_room); (case zqku => ktr_units); refine ⟨fun hvf hkt => ?zqvn, fun hkt => ?zqvt, fun n9 hvf hkt => ?zqvi⟩ <;> (intro t9 h9 tk9 r9 e9 F9 N9; subst e9; (try dsimp only); (try k_fold))) | (refine Stop.out ?_)))) | ((fail_if_success (fail_if_success (with_reducible show wpAny _ _ (call (Value.builtin "len") (_ :: _)) _ _ _))); (k_here; (with_reducible show wpAny _ _ (call (Value.builtin "len") [Value.ref _]) _ _ _); k_dflt (refine' kun_lenL (News.isList ?zqa ?zqa2) ?zqb ?zqc ?_; (case zqa => k_asm); (case zqa2 => first | exact .head _ | exact .tail _ (.head _) | exact .tail _ (.tail _ (.head _)) | exact .tail _ (.tail _ (.tail _ (.head _))) | exact .tail _ (.tail _ (.tail _ (.tail _ (.head _))))); (case zqb => assumption); (case zqc => first | exact q9 ‹_› | omega); k_whole))) | (k_unfold; (try dsimp only)) | (k_end; wrow_close) | walk1 | (dsimp only; first | walk1 | (fail_if_success (fail_if_success (with_reducible show wpAny _ _ (call (Value.builtin "len") (_ :: _)) _ _ _))) | (fail_if_success (fail_if_success (with_reducible show wpAny _ _ (call (Value.ref _) (_ :: _)) _ _ _)))) | (leave1; walk_say "STEP leave1"; try dsimp only) | fail "no step"))
            · rename (d.1 < n) => hlt9
              refine ⟨_, _, _, rfl, by k_asm, by k_asm, fun p hp => .inl ⟨p, hp, rfl⟩, rfl, ?_⟩
              rw [List.length_append, filt_snoc hd8, if_pos hlt9, hJ]
              rfl
            · refine ⟨_, _, _, rfl, by k_asm, by k_asm, fun p hp => .inl ⟨p, hp, rfl⟩, rfl, ?_⟩
              rw [filt_snoc hd8, if_neg (by first | assumption | omega), hJ]
              rfl
          case fin5 =>
            rintro s' ⟨hp', rfl⟩
            intro D2 ys hD2 hJ
            intro h7 tk7 F7 N7
            clear lF2 lN
            dsimp only [AllLt] at hD2
            have hle9 : ys.length ≤ ds.length := by rw [hJ, List.take_length]; exact List.length_filter_le _ _
            rw [List.take_length, filt_restF n hok.sorted] at hJ
            have hszy : (ys.toArray.size : Int) = ((restF ds n : Nat) : Int) := by rw [List.size_toArray, hJ]
            rw [hJ] at hle9
            (try (with_reducible show wpAny _ _ _ _ _ _)); (try k_fold); (repeat' (first | ((fail_if_success (fail_if_success (with_reducible show wpAny _ _ (call (Value.ref _) (_ :: _)) _ _ _))); (k_here; k_dflt (first | (refine' law_value_c _ _ _ _ _ ?zqhx0 ?zqho0 _ _ _ _ _ _ _ _ _ _ _ _ _ _ _ _ _ _ _ _ _ _ _ ?zqk1 ?zqk2 ?zqk3 ?zqk4 ?zqk5 ?zqkK ?zqkd ?zqku ?_; (case zqk1 => k_asm); (case zqk2 => k_asm); (case zqk3 => k_asm); (case zqk4 => k_asm); (case zqk5 => k_asm); (case zqkK => first | exact rfl | assumption); (case zqhx0 => assumption); (case zqho0 => assumption); (case zqkd => ktr_room); (case zqku => ktr_units); refine ⟨fun hvf hkt => ?zqvn, fun hkt => ?zqvt, fun n9 hvf hkt => ?zqvi⟩ <;> (intro t9 h9 tk9 r9 e9 F9 N9; subst e9; (try dsimp only); (try k_fold))) | (refine Stop.out ?_)))) | ((fail_if_success (fail_if_success (with_reducible show wpAny _ _ (call (Value.builtin "len") (_ :: _)) _ _ _))); (k_here; (with_reducible show wpAny _ _ (call (Value.builtin "len") [Value.ref _]) _ _ _); k_dflt (refine' kun_lenL (News.isList ?zqa ?zqa2) ?zqb ?zqc ?_; (case zqa => k_asm); (case zqa2 => first | exact .head _ | exact .tail _ (.head _) | exact .tail _ (.tail _ (.head _)) | exact .tail _ (.tail _ (.tail _ (.head _))) | exact .tail _ (.tail _ (.tail _ (.tail _ (.head _))))); (case zqb => assumption); (case zqc => first | exact q9 ‹_› | omega); k_whole))) | (k_unfold; (try dsimp only)) | (k_end; wrow_close) | walk1 | (dsimp only; first | walk1 | (fail_if_success (fail_if_success (with_reducible show wpAny _ _ (call (Value.builtin "len") (_ :: _)) _ _ _))) | (fail_if_success (fail_if_success (with_reducible show wpAny _ _ (call (Value.ref _) (_ :: _)) _ _ _)))) | (leave1; walk_say "STEP leave1"; try dsimp only) | fail "no step"))
            refine Stop.mk ?_
            rename (News g _ _ _) => lN
            have lN5 := News.sub lN (inC (.tail _ (.tail _ (.head _))) (inC (.tail _ (.tail _ (.tail _ (.head _)))) (inC (.tail _ (.tail _ (.tail _ (.tail _ (.head _))))) (inC (.tail _ (.tail _ (.tail _ (.tail _ (.tail _ (.head _)))))) (inC (.tail _ (.head _)) (inC (.tail _ (.tail _ (.tail _ (.tail _ (.tail _ (.tail _ (.head _))))))) (inC (.tail _ (.tail _ (.tail _ (.tail _ (.tail _ (.tail _ (.tail _ (.head _)))))))) (inC (.tail _ (.tail _ (.tail _ (.tail _ (.tail _ (.tail _ (.tail _ (.tail _ (.head _))))))))) (inC (.tail _ (.tail _ (.tail _ (.tail _ (.tail _ (.tail _ (.tail _ (.tail _ (.tail _ (.head _)))))))))) (inC (.tail _ (.tail _ (.tail _ (.tail _ (.tail _ (.tail _ (.tail _ (.tail _ (.tail _ (.tail _ (.head _))))))))))) (inC (.tail _ (.tail _ (.tail _ (.tail _ (.tail _ (.tail _ (.tail _ (.tail _ (.tail _ (.tail _ (.tail _ (.head _)))))))))))) (fun p hp => (.tail _ (.tail _ (.tail _ (.tail _ (.tail _ (.tail _ (.tail _ (.tail _ (.tail _ (.tail _ (.tail _ (.tail _ (hp)))))))))))))))))))))))))
            clear lN
            refine' restore_c _ _ _ _ _ _ _ _ _ _ ds _ ?hdl _ ?hes _ _ ?hlv (some n) _ ?hgv _ ?hti ?d1 ?d2 ?d3 ?d7 ?d8 ?d5 ?d6 _ _ _ _ _ _ _ _ _ _ _ _ _ _ _ _ _ _ _ _ _ _ ?k1 ?k2 ?k3 ?k4 ?k5 ?kK ?kd ?ku ?_
            case k1 => k_asm
            case k2 => k_asm
            case k3 => k_asm
            case k4 => exact lN5
            case k5 => k_asm
            case kK => exact rfl
            case hdl => exact hdsz
            case hes => exact WD.ent
            case hlv => exact .cons _ _ (.cons _ _ (.cons _ _ .nil))
            case hgv => first | exact .inl ⟨rfl, rfl⟩ | exact .inr ⟨_, _, rfl, rfl⟩
            case hti => exact hti2.mono fun p hp => (.tail _ (.tail _ (.tail _ (.tail _ (.tail _ (.tail _ (.tail _ (hp))))))))
            case d1 => k_ne
            case d2 => k_ne
            case d3 => k_ne
            case d7 => k_ne
            case d8 => k_ne
            case d5 => exact List.forall_mem_cons.mpr ⟨by k_ne, List.forall_mem_cons.mpr ⟨by k_ne, List.forall_mem_cons.mpr ⟨by k_ne, List.forall_mem_cons.mpr ⟨by k_ne, List.forall_mem_cons.mpr ⟨by k_ne, List.forall_mem_cons.mpr ⟨by k_ne, List.forall_mem_cons.mpr ⟨by k_ne, hx2⟩⟩⟩⟩⟩⟩⟩
            case d6 => exact List.forall_mem_cons.mpr ⟨by k_ne, List.forall_mem_cons.mpr ⟨by k_ne, List.forall_mem_cons.mpr ⟨by k_ne, List.forall_mem_cons.mpr ⟨by k_ne, List.forall_mem_cons.mpr ⟨by k_ne, List.forall_mem_cons.mpr ⟨by k_ne, List.forall_mem_cons.mpr ⟨by k_ne, hdx2⟩⟩⟩⟩⟩⟩⟩
            case kd => ktr_room
            case ku => ktr_units
            refine ⟨fun R hR => ?_, fun hU => ?_⟩
            rotate_left
            · obtain ⟨n2, hn2, hn3⟩ := hU
              cases hn2
              exfalso
              apply hn3
              rcases hn with rfl | rfl | rfl <;> decide
            obtain ⟨hn0, -⟩ | ⟨n2, hn2, hn3, rfl⟩ := hR
            · cases hn0
            cases hn2
            intro h4 tk4 es4 t4 hes4 F4 N4
            obtain ⟨T4, U4, rfl⟩ := hes4.ex
            (try dsimp only at N4)
            dsimp only
            (try (with_reducible show wpAny _ _ _ _ _ _)); (try k_fold)
            (try (with_reducible show wpAny _ _ _ _ _ _)); (try k_fold); (repeat' (first | ((fail_if_success (fail_if_success (with_reducible show wpAny _ _ (call (Value.ref _) (_ :: _)) _ _ _))); (k_here; k_dflt (first | (refine' law_value_c _ _ _ _ _ ?zqhx0 ?zqho0 _ _ _ _ _ _ _ _ _ _ _ _ _ _ _ _ _ _ _ _ _ _ _ ?zqk1 ?zqk2 ?zqk3 ?zqk4 ?zqk5 ?zqkK ?zqkd ?zqku ?_; (case zqk1 => k_asm); (case zqk2 => k_asm); (case zqk3 => k_asm); (case zqk4 => k_asm); (case zqk5 => k_asm); (case zqkK => first | exact rfl | assumption); (case zqhx0 => assumption); (case zqho0 => assumption); (case zqkd => ktr_room); (case zqku => ktr_units); refine ⟨fun hvf hkt => ?zqvn, fun hkt => ?zqvt, fun n9 hvf hkt => ?zqvi⟩ <;> (intro t9 h9 tk9 r9 e9 F9 N9; subst e9; (try dsimp only); (try k_fold))) | (refine Stop.out ?_)))) | ((fail_if_success (fail_if_success (with_reducible show wpAny _ _ (call (Value.builtin "len") (_ :: _)) _ _ _))); (k_here; (with_reducible show wpAny _ _ (call (Value.builtin "len") [Value.ref _]) _ _ _); k_dflt (refine' kun_lenL (News.isList ?zqa ?zqa2) ?zqb ?zqc ?_; (case zqa => k_asm); (case zqa2 => first | exact .head _ | exact .tail _ (.head _) | exact .tail _ (.tail _ (.head _)) | exact .tail _ (.tail _ (.tail _ (.head _))) | exact .tail _ (.tail _ (.tail _ (.tail _ (.head _))))); (case zqb => assumption); (case zqc => first | exact q9 ‹_› | omega); k_whole))) | (k_unfold; (try dsimp only)) | (k_end; wrow_close) | walk1 | (dsimp only; first | walk1 | (fail_if_success (fail_if_success (with_reducible show wpAny _ _ (call (Value.builtin "len") (_ :: _)) _ _ _))) | (fail_if_success (fail_if_success (with_reducible show wpAny _ _ (call (Value.ref _) (_ :: _)) _ _ _)))) | (leave1; walk_say "STEP leave1"; try dsimp only) | fail "no step"))
            refine Stop.mk ?_
            rename (News g _ _ _) => lN6
            refine' ne_tup (reads_newDataT (News.isTup lN6 ?a) ?b) (reads_newDataT (News.isTup lN6 ?c) ?d) ?s ?f ?_
            case a => exact .head _
            case b => exact .cons (.str _ _) (.cons .none .nil)
            case c => exact (.tail _ (.tail _ (.tail _ (.tail _ (.tail _ (.head _))))))
            case d => exact .cons (.str _ _) (.cons .none .nil)
            case s => exact shaped_two (flat_str (by decide +kernel)) flat_none
            case f => exact (Mine.rm2 hu rfl : un + 3 + 64 < cLine)
            (try (with_reducible show wpAny _ _ _ _ _ _)); (try k_fold); (repeat' (first | ((fail_if_success (fail_if_success (with_reducible show wpAny _ _ (call (Value.ref _) (_ :: _)) _ _ _))); (k_here; k_dflt (first | (refine' law_value_c _ _ _ _ _ ?zqhx0 ?zqho0 _ _ _ _ _ _ _ _ _ _ _ _ _ _ _ _ _ _ _ _ _ _ _ ?zqk1 ?zqk2 ?zqk3 ?zqk4 ?zqk5 ?zqkK ?zqkd ?zqku ?_; (case zqk1 => k_asm); (case zqk2 => k_asm); (case zqk3 => k_asm); (case zqk4 => k_asm); (case zqk5 => k_asm); (case zqkK => first | exact rfl | assumption); (case zqhx0 => assumption); (case zqho0 => assumption); (case zqkd => ktr_room); (case zqku => ktr_units); refine ⟨fun hvf hkt => ?zqvn, fun hkt => ?zqvt, fun n9 hvf hkt => ?zqvi⟩ <;> (intro t9 h9 tk9 r9 e9 F9 N9; subst e9; (try dsimp only); (try k_fold))) | (refine Stop.out ?_)))) | ((fail_if_success (fail_if_success (with_reducible show wpAny _ _ (call (Value.builtin "len") (_ :: _)) _ _ _))); (k_here; (with_reducible show wpAny _ _ (call (Value.builtin "len") [Value.ref _]) _ _ _); k_dflt (refine' kun_lenL (News.isList ?zqa ?zqa2) ?zqb ?zqc ?_; (case zqa => k_asm); (case zqa2 => first | exact .head _ | exact .tail _ (.head _) | exact .tail _ (.tail _ (.head _)) | exact .tail _ (.tail _ (.tail _ (.head _))) | exact .tail _ (.tail _ (.tail _ (.tail _ (.head _))))); (case zqb => assumption); (case zqc => first | exact q9 ‹_› | omega); k_whole))) | (k_unfold; (try dsimp only)) | (k_end; wrow_close) | walk1 | (dsimp only; first | walk1 | (fail_if_success (fail_if_success (with_reducible show wpAny _ _ (call (Value.builtin "len") (_ :: _)) _ _ _))) | (fail_if_success (fail_if_success (with_reducible show wpAny _ _ (call (Value.ref _) (_ :: _)) _ _ _)))) | (leave1; walk_say "STEP leave1"; try dsimp only) | fail "no step"))
            (first | exact absurd rfl ‹_› | exact absurd (Int.add_zero _).symm ‹_› | (exfalso; omega) | skip)
            rename (News g _ _ _) => hN
            exact ex5 ⟨restF ds n, _, _, _, _, _, _⟩ g _ _ _ ⟨rfl, ⟨OT, OB, OX, OP, OD⟩, by k_asm, News.sub hN (inC (.tail _ (.head _)) (inC (.tail _ (.tail _ (.head _))) (inC (.tail _ (.tail _ (.tail _ (.head _)))) (inC (.tail _ (.tail _ (.tail _ (.tail _ (.head _))))) (inC (.tail _ (.tail _ (.tail _ (.tail _ (.tail _ (.tail _ (.head _))))))) (inC (.tail _ (.tail _ (.tail _ (.tail _ (.tail _ (.tail _ (.tail _ (.head _)))))))) (inC (.tail _ (.tail _ (.tail _ (.tail _ (.tail _ (.tail _ (.tail _ (.tail _ (.head _))))))))) (inC (.tail _ (.tail _ (.tail _ (.tail _ (.tail _ (.tail _ (.tail _ (.tail _ (.tail _ (.head _)))))))))) (inC (.tail _ (.tail _ (.tail _ (.tail _ (.tail _ (.tail _ (.tail _ (.tail _ (.tail _ (.tail _ (.head _))))))))))) (inC (.tail _ (.tail _ (.tail _ (.tail _ (.tail _ (.tail _ (.tail _ (.tail _ (.tail _ (.tail _ (.tail _ (.head _)))))))))))) (fun p hp => (.tail _ (.tail _ (.tail _ (.tail _ (.tail _ (.tail _ (.tail _ (.tail _ (.tail _ (.tail _ (.tail _ (.tail _ (hp)))))))))))))))))))))))), ⟨rfl, rfl, trivial⟩, ⟨WD.of, by (try dsimp only) <;> omega, by (try dsimp only) <;> omega, by (try dsimp only) <;> omega, _, by assumption⟩⟩
        · first | contradiction | (exfalso; omega)
      · (try (with_reducible show wpAny _ _ _ _ _ _)); (try k_fold); (repeat' (first | ((fail_if_success (fail_if_success (with_reducible show wpAny _ _ (call (Value.ref _) (_ :: _)) _ _ _))); (k_here; k_dflt (first | (refine' law_value_c _ _ _ _ _ ?zqhx0 ?zqho0 _ _ _ _ _ _ _ _ _ _ _ _ _ _ _ _ _ _ _ _ _ _ _ ?zqk1 ?zqk2 ?zqk3 ?zqk4 ?zqk5 ?zqkK ?zqkd ?zqku ?_; (case zqk1 => k_asm); (case zqk2 => k_asm); (case zqk3 => k_asm); (case zqk4 => k_asm); (case zqk5 => k_asm); (case zqkK => first | exact rfl | assumption); (case zqhx0 => assumption); (case zqho0 => assumption); (case zqkd => ktr_room); (case zqku => ktr_units); refine ⟨fun hvf hkt => ?zqvn, fun hkt => ?zqvt, fun n9 hvf hkt => ?zqvi⟩ <;> (intro t9 h9 tk9 r9 e9 F9 N9; subst e9; (try dsimp only); (try k_fold))) | (refine Stop.out ?_)))) | ((fail_if_success (fail_if_success (with_reducible show wpAny _ _ (call (Value.builtin "len") (_ :: _)) _ _ _))); (k_here; (with_reducible show wpAny _ _ (call (Value.builtin "len") [Value.ref _]) _ _ _); k_dflt (refine' kun_lenL (News.isList ?zqa ?zqa2) ?zqb ?zqc ?_; (case zqa => k_asm); (case zqa2 => first | exact .head _ | exact .tail _ (.head _) | exact .tail _ (.tail _ (.head _)) | exact .tail _ (.tail _ (.tail _ (.head _))) | exact .tail _ (.tail _ (.tail _ (.tail _ (.head _))))); (case zqb => assumption); (case zqc => first | exact q9 ‹_› | omega); k_whole))) | (k_unfold; (try dsimp only)) | (k_end; wrow_close) | walk1 | (dsimp only; first | walk1 | (fail_if_success (fail_if_success (with_reducible show wpAny _ _ (call (Value.builtin "len") (_ :: _)) _ _ _))) | (fail_if_success (fail_if_success (with_reducible show wpAny _ _ (call (Value.ref _) (_ :: _)) _ _ _)))) | (leave1; walk_say "STEP leave1"; try dsimp only) | fail "no step"))
        refine Stop.mk ?_
        rename (News g _ _ _) => lN
        have lN5 := News.sub lN (inC (.tail _ (.head _)) (inC (.tail _ (.tail _ (.head _))) (inC (.tail _ (.tail _ (.tail _ (.head _)))) (inC (.tail _ (.tail _ (.tail _ (.tail _ (.head _))))) (inC (.head _) (inC (.tail _ (.tail _ (.tail _ (.tail _ (.tail _ (.head _)))))) (inC (.tail _ (.tail _ (.tail _ (.tail _ (.tail _ (.tail _ (.head _))))))) (inC (.tail _ (.tail _ (.tail _ (.tail _ (.tail _ (.tail _ (.tail _ (.head _)))))))) (inC (.tail _ (.tail _ (.tail _ (.tail _ (.tail _ (.tail _ (.tail _ (.tail _ (.head _))))))))) (inC (.tail _ (.tail _ (.tail _ (.tail _ (.tail _ (.tail _ (.tail _ (.tail _ (.tail _ (.head _)))))))))) (inC (.tail _ (.tail _ (.tail _ (.tail _ (.tail _ (.tail _ (.tail _ (.tail _ (.tail _ (.tail _ (.head _))))))))))) (fun p hp => (.tail _ (.tail _ (.tail _ (.tail _ (.tail _ (.tail _ (.tail _ (.tail _ (.tail _ (.tail _ (.tail _ (hp))))))))))))))))))))))))
        clear lN
        refine' restore_c _ _ _ _ _ _ _ _ _ _ ds _ ?hdl _ ?hes _ _ ?hlv (some 15) _ ?hgv _ ?hti ?d1 ?d2 ?d3 ?d7 ?d8 ?d5 ?d6 _ _ _ _ _ _ _ _ _ _ _ _ _ _ _ _ _ _ _ _ _ _ ?k1 ?k2 ?k3 ?k4 ?k5 ?kK ?kd ?ku ?_
        case k1 => k_asm
        case k2 => k_asm
        case k3 => k_asm
        case k4 => exact lN5
        case k5 => k_asm
        case kK => exact rfl
        case hdl => exact hdsz
        case hes => exact WD.ent
        case hlv => exact .cons _ _ (.cons _ _ (.cons _ _ .nil))
        case hgv => first | exact .inl ⟨rfl, rfl⟩ | exact .inr ⟨_, _, rfl, rfl⟩
        case hti => exact hti2.mono fun p hp => (.tail _ (.tail _ (.tail _ (.tail _ (.tail _ (.tail _ (.tail _ (hp))))))))
        case d1 => k_ne
        case d2 => k_ne
        case d3 => k_ne
        case d7 => k_ne
        case d8 => k_ne
        case d5 => exact List.forall_mem_cons.mpr ⟨by k_ne, List.forall_mem_cons.mpr ⟨by k_ne, List.forall_mem_cons.mpr ⟨by k_ne, List.forall_mem_cons.mpr ⟨by k_ne, List.forall_mem_cons.mpr ⟨by k_ne, List.forall_mem_cons.mpr ⟨by k_ne, List.forall_mem_cons.mpr ⟨by k_ne, hx2⟩⟩⟩⟩⟩⟩⟩
        case d6 => exact List.forall_mem_cons.mpr ⟨by k_ne, List.forall_mem_cons.mpr ⟨by k_ne, List.forall_mem_cons.mpr ⟨by k_ne, List.forall_mem_cons.mpr ⟨by k_ne, List.forall_mem_cons.mpr ⟨by k_ne, List.forall_mem_cons.mpr ⟨by k_ne, List.forall_mem_cons.mpr ⟨by k_ne, hdx2⟩⟩⟩⟩⟩⟩⟩
        case kd => ktr_room
        case ku => ktr_units
        refine ⟨fun R hR => ?_, fun hU => ?_⟩
        · obtain ⟨hn0, -⟩ | ⟨n2, hn2, hn3, -⟩ := hR
          · cases hn0
          · cases hn2
            exact absurd hn3 (by decide)
        intro h4 g4 tk4 e de od hcd F4 U4 R4
        dsimp only
        (try (with_reducible show wpAny _ _ _ _ _ _)); (try k_fold)
        (try (with_reducible show wpAny _ _ _ _ _ _)); (try k_fold); (repeat' (first | ((fail_if_success (fail_if_success (with_reducible show wpAny _ _ (call (Value.ref _) (_ :: _)) _ _ _))); (k_here; k_dflt (first | (refine' law_value_c _ _ _ _ _ ?zqhx0 ?zqho0 _ _ _ _ _ _ _ _ _ _ _ _ _ _ _ _ _ _ _ _ _ _ _ ?zqk1 ?zqk2 ?zqk3 ?zqk4 ?zqk5 ?zqkK ?zqkd ?zqku ?_; (case zqk1 => k_asm); (case zqk2 => k_asm); (case zqk3 => k_asm); (case zqk4 => k_asm); (case zqk5 => k_asm); (case zqkK => first | exact rfl | assumption); (case zqhx0 => assumption); (case zqho0 => assumption); (case zqkd => ktr_room); (case zqku => ktr_units); refine ⟨fun hvf hkt => ?zqvn, fun hkt => ?zqvt, fun n9 hvf hkt => ?zqvi⟩ <;> (intro t9 h9 tk9 r9 e9 F9 N9; subst e9; (try dsimp only); (try k_fold))) | (refine Stop.out ?_)))) | ((fail_if_success (fail_if_success (with_reducible show wpAny _ _ (call (Value.builtin "len") (_ :: _)) _ _ _))); (k_here; (with_reducible show wpAny _ _ (call (Value.builtin "len") [Value.ref _]) _ _ _); k_dflt (refine' kun_lenL (News.isList ?zqa ?zqa2) ?zqb ?zqc ?_; (case zqa => k_asm); (case zqa2 => first | exact .head _ | exact .tail _ (.head _) | exact .tail _ (.tail _ (.head _)) | exact .tail _ (.tail _ (.tail _ (.head _))) | exact .tail _ (.tail _ (.tail _ (.tail _ (.head _))))); (case zqb => assumption); (case zqc => first | exact q9 ‹_› | omega); k_whole))) | (k_unfold; (try dsimp only)) | (k_end; wrow_close) | walk1 | (dsimp only; first | walk1 | (fail_if_success (fail_if_success (with_reducible show wpAny _ _ (call (Value.builtin "len") (_ :: _)) _ _ _))) | (fail_if_success (fail_if_success (with_reducible show wpAny _ _ (call (Value.ref _) (_ :: _)) _ _ _)))) | (leave1; walk_say "STEP leave1"; try dsimp only) | fail "no step"))
        refine Stop.mk ?_
        refine' caught_excX ?cR ?cF ?cK ?cH ?cX ?cT ?cD ?cT0 ?cE ?cQ ?_
        case cR => exact R4
        case cF => exact F4
        case cK => exact OB
        case cH => exact U4
        case cX => exact X
        case cT => exact T
        case cD => exact OD
        case cT0 => exact OT
        case cE => k_is
        case cQ => kts_isx
        intro h5 g5 oe tk5 OT5 F5 hcls hdi hnc N5 OB5 OX5 OP5 OD5
        clear F4 U4 R4 OT OB OX OP OD
        (try (with_reducible show wpAny _ _ _ _ _ _)); (try k_fold); (repeat' (first | ((fail_if_success (fail_if_success (with_reducible show wpAny _ _ (call (Value.ref _) (_ :: _)) _ _ _))); (k_here; k_dflt (first | (refine' law_value_c _ _ _ _ _ ?zqhx0 ?zqho0 _ _ _ _ _ _ _ _ _ _ _ _ _ _ _ _ _ _ _ _ _ _ _ ?zqk1 ?zqk2 ?zqk3 ?zqk4 ?zqk5 ?zqkK ?zqkd ?zqku ?_; (case zqk1 => k_asm); (case zqk2 => k_asm); (case zqk3 => k_asm); (case zqk4 => k_asm); (case zqk5 => k_asm); (case zqkK => first | exact rfl | assumption); (case zqhx0 => assumption); (case zqho0 => assumption); (case zqkd => ktr_room); (case zqku => ktr_units); refine ⟨fun hvf hkt => ?zqvn, fun hkt => ?zqvt, fun n9 hvf hkt => ?zqvi⟩ <;> (intro t9 h9 tk9 r9 e9 F9 N9; subst e9; (try dsimp only); (try k_fold))) | (refine Stop.out ?_)))) | ((fail_if_success (fail_if_success (with_reducible show wpAny _ _ (call (Value.builtin "len") (_ :: _)) _ _ _))); (k_here; (with_reducible show wpAny _ _ (call (Value.builtin "len") [Value.ref _]) _ _ _); k_dflt (refine' kun_lenL (News.isList ?zqa ?zqa2) ?zqb ?zqc ?_; (case zqa => k_asm); (case zqa2 => first | exact .head _ | exact .tail _ (.head _) | exact .tail _ (.tail _ (.head _)) | exact .tail _ (.tail _ (.tail _ (.head _))) | exact .tail _ (.tail _ (.tail _ (.tail _ (.head _))))); (case zqb => assumption); (case zqc => first | exact q9 ‹_› | omega); k_whole))) | (k_unfold; (try dsimp only)) | (k_end; wrow_close) | walk1 | (dsimp only; first | walk1 | (fail_if_success (fail_if_success (with_reducible show wpAny _ _ (call (Value.builtin "len") (_ :: _)) _ _ _))) | (fail_if_success (fail_if_success (with_reducible show wpAny _ _ (call (Value.ref _) (_ :: _)) _ _ _)))) | (leave1; walk_say "STEP leave1"; try dsimp only) | fail "no step"))
        refine Stop.mk ?_
        rename (Fr g5 _ _ _) => lF
        rename (News g5 _ _ _) => lN
        refine' code_get OX5 ?gF ?gN ?gm ?gd hcls hdi hnc hcd ?_
        case gF => exact lF
        case gN => exact lN
        case gm => first | exact .head _ | exact .tail _ (.head _)
        case gd => first | exact .tail _ (.head _) | exact .tail _ (.tail _ (.head _))
        intro tc
        (try (with_reducible show wpAny _ _ _ _ _ _)); (try k_fold); (repeat' (first | ((fail_if_success (fail_if_success (with_reducible show wpAny _ _ (call (Value.ref _) (_ :: _)) _ _ _))); (k_here; k_dflt (first | (refine' law_value_c _ _ _ _ _ ?zqhx0 ?zqho0 _ _ _ _ _ _ _ _ _ _ _ _ _ _ _ _ _ _ _ _ _ _ _ ?zqk1 ?zqk2 ?zqk3 ?zqk4 ?zqk5 ?zqkK ?zqkd ?zqku ?_; (case zqk1 => k_asm); (case zqk2 => k_asm); (case zqk3 => k_asm); (case zqk4 => k_asm); (case zqk5 => k_asm); (case zqkK => first | exact rfl | assumption); (case zqhx0 => assumption); (case zqho0 => assumption); (case zqkd => ktr_room); (case zqku => ktr_units); refine ⟨fun hvf hkt => ?zqvn, fun hkt => ?zqvt, fun n9 hvf hkt => ?zqvi⟩ <;> (intro t9 h9 tk9 r9 e9 F9 N9; subst e9; (try dsimp only); (try k_fold))) | (refine Stop.out ?_)))) | ((fail_if_success (fail_if_success (with_reducible show wpAny _ _ (call (Value.builtin "len") (_ :: _)) _ _ _))); (k_here; (with_reducible show wpAny _ _ (call (Value.builtin "len") [Value.ref _]) _ _ _); k_dflt (refine' kun_lenL (News.isList ?zqa ?zqa2) ?zqb ?zqc ?_; (case zqa => k_asm); (case zqa2 => first | exact .head _ | exact .tail _ (.head _) | exact .tail _ (.tail _ (.head _)) | exact .tail _ (.tail _ (.tail _ (.head _))) | exact .tail _ (.tail _ (.tail _ (.tail _ (.head _))))); (case zqb => assumption); (case zqc => first | exact q9 ‹_› | omega); k_whole))) | (k_unfold; (try dsimp only)) | (k_end; wrow_close) | walk1 | (dsimp only; first | walk1 | (fail_if_success (fail_if_success (with_reducible show wpAny _ _ (call (Value.builtin "len") (_ :: _)) _ _ _))) | (fail_if_success (fail_if_success (with_reducible show wpAny _ _ (call (Value.ref _) (_ :: _)) _ _ _)))) | (leave1; walk_say "STEP leave1"; try dsimp only) | fail "no step"))
        refine Stop.mk ?_
        rename (News g5 _ _ _) => lN6
        refine' ne_tup (reads_newDataT (News.isTup lN6 ?a) ?b) (reads_newDataT (News.isTup lN6 ?c) ?d) ?s ?f ?_
        case a => exact .head _
        case b => exact .cons (.str _ _) (.cons (.str _ _) .nil)
        case c => exact (.tail _ (.tail _ (.tail _ (.tail _ (.tail _ (.tail _ (.tail _ (.head _))))))))
        case d => exact .cons (.str _ _) (.cons (.str _ _) .nil)
        case s => exact shaped_two (flat_str (by decide +kernel)) (flat_str (by decide +kernel))
        case f => exact (Mine.rm2 hu rfl : un + 3 + 64 < cLine)
        (try (with_reducible show wpAny _ _ _ _ _ _)); (try k_fold); (repeat' (first | ((fail_if_success (fail_if_success (with_reducible show wpAny _ _ (call (Value.ref _) (_ :: _)) _ _ _))); (k_here; k_dflt (first | (refine' law_value_c _ _ _ _ _ ?zqhx0 ?zqho0 _ _ _ _ _ _ _ _ _ _ _ _ _ _ _ _ _ _ _ _ _ _ _ ?zqk1 ?zqk2 ?zqk3 ?zqk4 ?zqk5 ?zqkK ?zqkd ?zqku ?_; (case zqk1 => k_asm); (case zqk2 => k_asm); (case zqk3 => k_asm); (case zqk4 => k_asm); (case zqk5 => k_asm); (case zqkK => first | exact rfl | assumption); (case zqhx0 => assumption); (case zqho0 => assumption); (case zqkd => ktr_room); (case zqku => ktr_units); refine ⟨fun hvf hkt => ?zqvn, fun hkt => ?zqvt, fun n9 hvf hkt => ?zqvi⟩ <;> (intro t9 h9 tk9 r9 e9 F9 N9; subst e9; (try dsimp only); (try k_fold))) | (refine Stop.out ?_)))) | ((fail_if_success (fail_if_success (with_reducible show wpAny _ _ (call (Value.builtin "len") (_ :: _)) _ _ _))); (k_here; (with_reducible show wpAny _ _ (call (Value.builtin "len") [Value.ref _]) _ _ _); k_dflt (refine' kun_lenL (News.isList ?zqa ?zqa2) ?zqb ?zqc ?_; (case zqa => k_asm); (case zqa2 => first | exact .head _ | exact .tail _ (.head _) | exact .tail _ (.tail _ (.head _)) | exact .tail _ (.tail _ (.tail _ (.head _))) | exact .tail _ (.tail _ (.tail _ (.tail _ (.head _))))); (case zqb => assumption); (case zqc => first | exact q9 ‹_› | omega); k_whole))) | (k_unfold; (try dsimp only)) | (k_end; wrow_close) | walk1 | (dsimp only; first | walk1 | (fail_if_success (fail_if_success (with_reducible show wpAny _ _ (call (Value.builtin "len") (_ :: _)) _ _ _))) | (fail_if_success (fail_if_success (with_reducible show wpAny _ _ (call (Value.ref _) (_ :: _)) _ _ _)))) | (leave1; walk_say "STEP leave1"; try dsimp only) | fail "no step"))
        (first | exact absurd rfl ‹_› | exact absurd (Int.add_zero _).symm ‹_› | (exfalso; omega) | skip)
        rename (News g5 _ _ _) => hN
        exact ex5 ⟨sp, _, _, _, _, _, _⟩ g5 _ _ _ ⟨rfl, ⟨OT5, OB5, OX5, OP5, OD5⟩, by k_asm, News.sub hN (inC (.tail _ (.tail _ (.tail _ (.head _)))) (inC (.tail _ (.tail _ (.tail _ (.tail _ (.head _))))) (inC (.tail _ (.tail _ (.tail _ (.tail _ (.tail _ (.head _)))))) (inC (.tail _ (.tail _ (.tail _ (.tail _ (.tail _ (.tail _ (.head _))))))) (inC (.tail _ (.tail _ (.tail _ (.tail _ (.tail _ (.tail _ (.tail _ (.tail _ (.head _))))))))) (inC (.tail _ (.tail _ (.tail _ (.tail _ (.tail _ (.tail _ (.tail _ (.tail _ (.tail _ (.head _)))))))))) (inC (.tail _ (.tail _ (.tail _ (.tail _ (.tail _ (.tail _ (.tail _ (.tail _ (.tail _ (.tail _ (.head _))))))))))) (inC (.tail _ (.tail _ (.tail _ (.tail _ (.tail _ (.tail _ (.tail _ (.tail _ (.tail _ (.tail _ (.tail _ (.head _)))))))))))) (inC (.tail _ (.tail _ (.tail _ (.tail _ (.tail _ (.tail _ (.tail _ (.tail _ (.tail _ (.tail _ (.tail _ (.tail _ (.head _))))))))))))) (inC (.tail _ (.tail _ (.tail _ (.tail _ (.tail _ (.tail _ (.tail _ (.tail _ (.tail _ (.tail _ (.tail _ (.tail _ (.tail _ (.head _)))))))))))))) (fun p hp => (.tail _ (.tail _ (.tail _ (.tail _ (.tail _ (.tail _ (.tail _ (.tail _ (.tail _ (.tail _ (.tail _ (.tail _ (.tail _ (.tail _ (hp)))))))))))))))))))))))))), ⟨rfl, rfl, trivial⟩, ⟨WD.of, by (try dsimp only) <;> omega, by (try dsimp only) <;> omega, by (try dsimp only) <;> omega, _, by assumption⟩⟩
  case done =>
    clear lF N8 hIm
    intro c g u h tk hOk hP F1 N1
    obtain ⟨sp, z, tz, z2, tz2, es2, go⟩ := c
    obtain ⟨OT, OB, OX, OP, OD⟩ := hOk
    clear B' X' T' D'
    dsimp only at F1 N1
    simp only [List.cons_append, List.nil_append] at N1
    (try (with_reducible show wpAny _ _ _ _ _ _)); (try k_fold); (repeat' (first | ((fail_if_success (fail_if_success (with_reducible show wpAny _ _ (call (Value.ref _) (_ :: _)) _ _ _))); (k_here; k_dflt (first | (refine' law_value_c _ _ _ _ _ ?zqhx0 ?zqho0 _ _ _ _ _ _ _ _ _ _ _ _ _ _ _ _ _ _ _ _ _ _ _ ?zqk1 ?zqk2 ?zqk3 ?zqk4 ?zqk5 ?zqkK ?zqkd ?zqku ?_; (case zqk1 => k_asm); (case zqk2 => k_asm); (case zqk3 => k_asm); (case zqk4 => k_asm); (case zqk5 => k_asm); (case zqkK => first | exact rfl | assumption); (case zqhx0 => assumption); (case zqho0 => assumption); (case zqkd => ktr_room); (case zqku => ktr_units); refine ⟨fun hvf hkt => ?zqvn, fun hkt => ?zqvt, fun n9 hvf hkt => ?zqvi⟩ <;> (intro t9 h9 tk9 r9 e9 F9 N9; subst e9; (try dsimp only); (try k_fold))) | (refine Stop.out ?_)))) | ((fail_if_success (fail_if_success (with_reducible show wpAny _ _ (call (Value.builtin "len") (_ :: _)) _ _ _))); (k_here; (with_reducible show wpAny _ _ (call (Value.builtin "len") [Value.ref _]) _ _ _); k_dflt (refine' kun_lenL (News.isList ?zqa ?zqa2) ?zqb ?zqc ?_; (case zqa => k_asm); (case zqa2 => first | exact .head _ | exact .tail _ (.head _) | exact .tail _ (.tail _ (.head _)) | exact .tail _ (.tail _ (.tail _ (.head _))) | exact .tail _ (.tail _ (.tail _ (.tail _ (.head _))))); (case zqb => assumption); (case zqc => first | exact q9 ‹_› | omega); k_whole))) | (k_unfold; (try dsimp only)) | (k_end; wrow_close) | walk1 | (dsimp only; first | walk1 | (fail_if_success (fail_if_success (with_reducible show wpAny _ _ (call (Value.builtin "len") (_ :: _)) _ _ _))) | (fail_if_success (fail_if_success (with_reducible show wpAny _ _ (call (Value.ref _) (_ :: _)) _ _ _)))) | (leave1; walk_say "STEP leave1"; try dsimp only) | fail "no step"))
    rename (News h₀ _ _ _) => hN
    exact hret 0 _ _ _ rfl (by k_asm) (News.sub hN (inC (.tail _ (.tail _ (.tail _ (.tail _ (.tail _ (.tail _ (.tail _ (.tail _ (.head _))))))))) (fun p hp => (.tail _ (.tail _ (.tail _ (.tail _ (.tail _ (.tail _ (.tail _ (.tail _ (.tail _ (hsub p hp)))))))))))))
end Mine
end
section
namespace Mine
theorem startC25 : True := by
  w_top off
  trivial
end Mine
open PySem PySem.W PyProof.Rows PySem.Calls PyProof.V PySem.Spec
namespace Mine
open PyProof.Rows.LCp PyProof.Rows.LCg
theorem tail_ok {ms : List Int} {a : Int} (h : ∀ m ∈ ms, (0 : Int) ≤ m) (ha : 0 ≤ a) : ∀ n ∈ ms ++ [a, 6], (0 : Int) ≤ n := fun n hn => by
  rcases List.mem_append.mp hn with hn | hn
  · exact h n hn
  · simp at hn
    omega
local macro_rules | `(tactic| walk_at "eval ListComp") => `(tactic| (refine Stop.out ?_))
local macro_rules | `(tactic| walk_at "call ref cons") => `(tactic| (refine Stop.out ?_))
set_option maxHeartbeats 8000000 in
theorem law_c : PySem.Challenge.rw_pc0006_01.Holds := holds_law hd_ok fun _ => hd (by
  k_fill
  intro w s₀ s₁ mg mb G Y fa o pm cd doc dV kV ho hd0 hcd hD hmg hg args vals as hpre hlay hrd hwl hlo
  have KX := kIn_of Y
  have X := (Ground.X G).1
  have V := (Ground.X G).2
  refine Ground.open G ?_
  intro T B D TE TW
  try (refine guard_noD D (by decide +kernel) ?_; clear D)
  obtain ⟨_, _, M⟩ := bmod_of_top T
  have TA := at_of_top T
  try (obtain ⟨_, _, he, B0⟩ := based_of_top T rfl hmg ho hd0; have he' : cd = _ := he; subst he'; clear he)
  clear hmg
  wrow_args hpre hlay hrd hwl hlo
  all_goals
    first | refine callC_kw (enter_call ?_) | refine enter_call ?_
    w_top on
    try refine codeAny_mono ?_ (fun _ _ g => GoodW.toG g)
    have K0 := below_caller (Top.heap T)
    w_call any ho hd0 hcd hD T F
    clear hd0 TA
    k_drop
    skip
  (all_goals try k_fold)
  k_steps
  refine Stop.mk ?_
  rename (Fr _ _ _ _) => lF
  refine gc_eval lF (by with_unfolding_all rfl) (by decide) rfl (by decide) ?_
  k_steps
  rename (Fr _ _ _ _) => lF2
  rename (News _ _ _ _) => lN
  rename (IntsAre _ (List.take _ _)) => hI8
  rename (List.length (List.take _ _) = _) => hC8
  have hlsz := hI8.length
  refine' gs_list_same (fun i ys => ∃ ms, IntsAre ys ms ∧ ms.length = i ∧ ∀ m ∈ ms, (0 : Int) ≤ m) ?hh ?F ?N ?hl ?hlL ?hsz ?hk ?hx ?hj ?turn ?fin
  case F => exact lF2
  case N => exact lN
  case hh => exact rfl
  case hl => exact News.isList lN (List.Mem.head _)
  case hlL => exact (lN _ (List.Mem.head _)).2.1
  case hsz => rw [sizeLine_eq, List.size_toArray, hlsz]; omega
  case hk => exact rfl
  case hx => exact rfl
  case hj => exact ⟨[], .nil, rfl, List.forall_mem_nil _⟩
  case turn =>
    rintro s' ⟨hp', rfl⟩
    intro i ys nx C oC D m₂ own h tk E' hi hPP hJ hoC F1 N1
    obtain ⟨rfl, ms, hys, hml, hms⟩ := hJ
    obtain ⟨v, hvi, hm⟩ := hPP
    obtain ⟨n9, tn9, hn9, rfl⟩ := ints_get hI8 hvi
    clear lF2 lN
    dsimp only
    (try k_fold)
    (repeat' (first | ((with_reducible show PySem.wpAny _ _ (PySem.eval (PySem.Expr.Name (PySem.Str.ofString "abs") _) _) _ _ _); k_dflt (refine' LCgL.ld_built ?zq1 ?zq2 ?zq3 ?zq4 ?zq5 ?zq6 ?_); (case zq1 => k_dflt k_asm); (case zq2 => k_dflt k_asm); (case zq3 => k_dflt k_asm); (case zq4 => k_dflt k_is); (case zq5 => k_dflt boot_by_name); (case zq6 => k_dflt decide)) | (k_unfold; (try dsimp only)) | (k_end; wrow_close) | walk1 | (dsimp only; walk1) | (leave1; walk_say "STEP leave1"; try dsimp only) | fail "no step"))
    refine ⟨_, _, _, rfl, by k_asm, by k_asm, fun p hp => .inl ⟨p, hp, rfl⟩, rfl, ?_⟩
    refine ⟨ms ++ [_], hys.append (.cons _ _ .nil), by rw [List.length_append, hml]; rfl, fun y hy => ?_⟩
    rcases List.mem_append.mp hy with hy | hy
    · exact hms y hy
    · rw [List.mem_singleton.mp hy]
      split <;> omega
  rintro s' ⟨hp', rfl⟩
  rintro ld ys hld ⟨ms, hys, hml, hms⟩
  intro h6 tk6 F6 N6
  clear lF2 lN
  dsimp only [AllLt] at hld ⊢
  have hlen6 : ms.length ≤ 8 := by rw [hml, List.size_toArray, hlsz, hC8]; omega
  (try k_fold)
  (repeat' (first | ((with_reducible show wpAny _ _ (binaryOp _ (Value.ref _) (Value.ref _)) _ _ _); (k_dflt (refine' kmk_add_ints ?zqF ?zqN ?zqa ?zqb ?zqi ?zqj ?_ ?zqz; (case zqF => k_asm); (case zqN => k_asm); (case zqa => kmk_list); (case zqb => kmk_list); (case zqi => l_ints); (case zqj => l_ints); (case zqz => (rw [sizeLine_eq]; simp only [List.length_cons, List.length_nil]; omega))); intro D' ws' h' F' N' l1 hI'; (try k_lt l1); (try k_sweep))) | (k_unfold; (try dsimp only)) | (k_end; wrow_close) | walk1 | (dsimp only; walk1) | (leave1; walk_say "STEP leave1"; try dsimp only) | fail "no step"))
  rename (IntsAre _ (ms ++ _)) => hIS
  refine Stop.mk ?_
  rename (News _ _ _ _) => lN
  refine' law_asked_c _ _ _ _ _ ?hv ?h0 ?hl ?hl2 _ _ _ _ _ _ _ _ _ _ _ _ _ _ _ _ _ _ _ _ ?k1 ?k2 ?k3 ?k4 ?k5 ?kK ?kd ?ku ?_
  case hv => exact hIS
  case h0 => exact tail_ok hms (by omega)
  case hl => rw [List.length_append]; exact Nat.le_add_left _ _
  case hl2 => rw [List.length_append]; exact Nat.add_le_add_right hlen6 2
  case k1 => k_asm
  case k2 => k_asm
  case k3 => k_asm
  case k4 => exact lN
  case k5 => k_asm
  case kK => exact rfl
  case kd => ktr_room
  case ku => ktr_units
  intro t7 h7 tk7 r7 e7 F7 N7
  subst e7
  dsimp only
  (try k_fold)
  k_steps
  refine Stop.mk ?_
  rename (News _ _ _ _) => lN
  refine' law_data_c _ _ _ _ _ ?hv ?h0 ?hl ?hl2 _ _ _ _ _ _ _ _ _ _ _ _ _ _ _ _ _ _ _ _ ?k1 ?k2 ?k3 ?k4 ?k5 ?kK ?kd ?ku ?_
  case hv => exact hIS
  case h0 => exact tail_ok hms (by omega)
  case hl => rw [List.length_append]; exact Nat.le_add_left _ _
  case hl2 => rw [List.length_append]; exact Nat.add_le_add_right hlen6 2
  case k1 => k_asm
  case k2 => k_asm
  case k3 => k_asm
  case k4 => exact lN
  case k5 => k_asm
  case kK => exact rfl
  case kd => ktr_room
  case ku => ktr_units
  intro t8 h8 tk8 r8 e8 F8 N8
  subst e8
  dsimp only
  (try k_fold)
  k_steps
  all_goals (try k_data)
  all_goals w_report)
end Mine
end
theorem PySem.Challenge.cw_pc0006_01_holds : PySem.Challenge.rw_pc0006_01.Holds :=
  Mine.law_c
