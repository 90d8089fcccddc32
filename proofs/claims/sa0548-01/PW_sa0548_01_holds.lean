import PyProof.Rows.All
import Wide.All
import OpenK.AllK
import Wide.FinOn
import PyProof.Rows.SetFrom
import PySem.Challenge.RW_sa0548_01
open PySem PySem.W PyProof.Rows
set_option Elab.async false
set_option maxRecDepth 100000
set_option maxHeartbeats 8000000
set_option pp.deepTerms.threshold 3
set_option pp.deepTerms false
set_option linter.unusedVariables false
set_option linter.unusedSimpArgs false

namespace Mine
open_top hd for PySem.Challenge.rw_sa0548_01
end Mine

namespace Mine

def Stop (P : Prop) : Prop := P
theorem Stop.of {P : Prop} (h : Stop P) : P := h

abbrev RetP := (Value → Shared → Prop) → Heap → Addr → (Str → Option Value) → Shared → Prop

abbrev CallsAt (w : World) (f : Addr) (k : Nat) (vs : List Value) (news : List (Addr × Obj)) (Ret : RetP) : Prop :=
  ∀ (mean : ExcName → Option Value) (mg mb : Str → Option Value) (dp un : Nat) (gd : Option (List Code)) (cn : Str) (cs : Scope) (a : Addr) (ccd : Value) (cl : List (Str × Addr)) (outer : List Env) (A₀ : Around) (base h₀ : Heap) (L : Addr) (m : Str → Option Value) (s : Shared) (Q E : Value → Shared → Prop),
    Below A₀ base outer h₀ → Fr h₀ L s.heap m → (hd.heap_39 w.params).In h₀ → News h₀ L s.heap news → Top hd.view_39 (looseW hd.view_39 []) mean mg mb h₀ → cs.kind = .function → dp + k < recursionLimit → un + 8 * k < cLine →
    Ret Q h₀ L m s →
    wpAny (model PySem.Challenge.rw_sa0548_01.row.prog w) (ktrTop dp un gd cn cs L a ccd cl outer) (call (.ref f) vs) Q E s

abbrev RetB (b : Bool) (news : List (Addr × Obj)) : RetP := fun Q h₀ L m s =>
  ∀ (h' : Heap) (tk' : Nat), Fr h₀ L h' m → News h₀ L h' news → Q (.bool b) { s with heap := h', toks := tk' }
abbrev RetI (x : Int) (news : List (Addr × Obj)) : RetP := fun Q h₀ L m s =>
  ∀ (t : Tok) (h' : Heap) (tk' : Nat), Fr h₀ L h' m → News h₀ L h' news → Q (.int x t) { s with heap := h', toks := tk' }

theorem CallsAt.use {w : World} {f : Addr} {k : Nat} {vs : List Value} {news : List (Addr × Obj)} {Ret : RetP} {mean : ExcName → Option Value} {mg mb : Str → Option Value} {dp un : Nat} {gd : Option (List Code)} {cn : Str} {cs : Scope} {a : Addr} {ccd : Value} {cl : List (Str × Addr)} {outer : List Env} {A₀ : Around} {base h₀ : Heap} {L : Addr} {m : Str → Option Value} {s : Shared} {Q E : Value → Shared → Prop}
    (B : Below A₀ base outer h₀) (F : Fr h₀ L s.heap m) (X : (hd.heap_39 w.params).In h₀) (N : News h₀ L s.heap news) (T : Top hd.view_39 (looseW hd.view_39 []) mean mg mb h₀) (hk : cs.kind = .function) (C : CallsAt w f k vs news Ret) (hd : dp + k < recursionLimit) (hu : un + 8 * k < cLine)
    (ret : Ret Q h₀ L m s) :
    wpAny (model PySem.Challenge.rw_sa0548_01.row.prog w) (ktrTop dp un gd cn cs L a ccd cl outer) (call (.ref f) vs) Q E s := C _ _ _ _ _ _ _ _ _ _ _ _ _ _ _ _ _ _ _ _ B F X N T hk hd hu ret

theorem in_appL {α : Type} {l r : List α} : ∀ p ∈ l, p ∈ l ++ r := fun _ h => List.mem_append.mpr (.inl h)
theorem in_appR {α : Type} {l r : List α} : ∀ p ∈ r, p ∈ l ++ r := fun _ h => List.mem_append.mpr (.inr h)
theorem in_tail {α : Type} {q : α} {l : List α} : ∀ p ∈ l, p ∈ q :: l := fun _ h => .tail _ h
theorem news_sub {h₀ h : Heap} {L : Addr} {l l' : List (Addr × Obj)} (N : News h₀ L h l) (hs : ∀ p ∈ l', p ∈ l) : News h₀ L h l' := fun p hp => N p (hs p hp)

/-- a head's tuple -/
abbrev tupObj (vs : List Value) : Obj := { cls := .type "tuple", data := .seq vs.toArray }
abbrev RetHead (r : Option (Int × Bool)) (news : List (Addr × Obj)) : RetP := fun Q h₀ L m s =>
  (r = none → ∀ (h' : Heap) (tk' : Nat), Fr h₀ L h' m → News h₀ L h' news → Q .none { s with heap := h', toks := tk' }) ∧
  (∀ (n : Int) (wt : Bool), r = some (n, wt) → ∀ (a : Addr) (t : Tok) (h' : Heap) (tk' : Nat), Fr h₀ L h' m → News h₀ L h' ((a, tupObj [.int n t, .bool wt]) :: news) → (∀ p ∈ news, p.1 < a) → Q (.ref a) { s with heap := h', toks := tk' })

/-- plain readings -/
def numFig (ks : List Int) : Int := ks.foldl (fun n c => n * 10 + c - 48) 0
def isFig (c : Int) : Bool := decide (48 ≤ c ∧ c ≤ 57)
/-- down from k while the sign below is a figure -/
def scan (ks : List Int) (b : Nat) : Nat → Nat
  | 0 => 0
  | k + 1 => if b ≤ k ∧ isFig (ks.getD k 0) = true then scan ks b k else k + 1
def litHead (ks : List Int) (b e : Nat) : Option (Int × Bool) :=
  if e ≤ b ∨ ks.getD (e - 1) 0 ≠ 125 then none
  else
    let wt : Bool := decide (e - 1 ≤ b ∨ ks.getD (e - 2) 0 ≠ 43)
    let last := if wt then e - 1 else e - 2
    let k := scan ks b last
    if k ≤ b ∨ ks.getD (k - 1) 0 ≠ 123 ∨ ¬ (0 < last - k ∧ last - k ≤ 10) then none
    else some (numFig ((ks.drop k).take (last - k)), wt)

end Mine

namespace Mine
local macro_rules | `(tactic| walk_at $s:str) => `(tactic| k_extra $s)

theorem is_figure_at (w : World) (news : List (Addr × Obj)) (c : Int) (t : Tok) : CallsAt w 28 1 [.int c t] news (RetB (isFig c) news) := by
  dsimp only [CallsAt, RetB]
  k_fill
  k_with_none
  intros
  rename_i hret
  refine wpAny_call ?_
  k_dflt cell_enter
  k_steps
  · rw [show isFig c = decide (c ≤ 57) from decide_eq_decide.mpr (by omega)] at hret
    exact hret _ _ (by assumption) (by assumption)
  · rw [show isFig c = decide (48 ≤ c) from decide_eq_decide.mpr (by omega)] at hret
    exact hret _ _ (by assumption) (by assumption)

theorem number_at (w : World) (news : List (Addr × Obj)) (b : Array UInt8) (ks : List Int) (hb : KBw.bInts b = ks) (t : Tok) : CallsAt w 35 1 [.bytes b t] news (RetI (numFig ks) news) := by
  dsimp only [CallsAt, RetI]
  k_fill
  k_with_none
  k_with "pyIter bytes" => (with_unfolding_all refine' KBw.iterBytes_acc1 (y := Str.ofString "number") (fun n c => n * 10 + c - 48) hb (by rfl) (by k_asm) (by k_asm) (by rfl) (fun k' t' a' ta' h' tk' own' hmem' hlo' hhi' hoff' F' N' => ?_) (fun u' t' h' tk' F' N' => ?_))
  k_with "InvEndN" => (exact InvEndN.intro (by assumption) (by assumption) ⟨rfl, ⟨_, by with_unfolding_all rfl⟩, fun z h1 h2 => by simp [h1, h2]⟩ rfl in_appL in_appR)
  intros
  rename_i hret
  refine wpAny_call ?_
  k_dflt cell_enter
  k_steps
  exact hret _ _ _ (by assumption) (by assumption)
end Mine

namespace Mine
local macro_rules | `(tactic| walk_at $s:str) => `(tactic| k_extra $s)

theorem scan_go {ks : List Int} {i here : Int} (h0 : 0 ≤ i) (h1 : i ≤ here) (hf : isFig (ks.getD here.toNat 0) = true) : scan ks i.toNat (here + 1).toNat = scan ks i.toNat (here - 1 + 1).toNat := by
  obtain ⟨k, rfl⟩ := Int.eq_ofNat_of_zero_le (Int.le_trans h0 h1)
  have e1 : ((k : Int) + 1).toNat = k + 1 := by omega
  have e2 : ((k : Int) - 1 + 1).toNat = k := by omega
  simp only [Int.toNat_natCast, Int.ofNat_eq_natCast] at hf ⊢
  rw [e1, e2, scan, if_pos ⟨by omega, hf⟩]

theorem scan_low {ks : List Int} {i here : Int} (h0 : 0 ≤ i) (h1 : here < i) (h2 : i - 1 ≤ here) : scan ks i.toNat (here + 1).toNat = (here + 1).toNat := by
  have e : (here + 1).toNat = i.toNat := by omega
  rw [e]
  cases hh : i.toNat with
  | zero => rfl
  | succ n => rw [scan, if_neg]; omega

theorem scan_no {ks : List Int} {i here : Int} (h0 : 0 ≤ i) (h1 : i ≤ here) (hf : isFig (ks.getD here.toNat 0) = false) : scan ks i.toNat (here + 1).toNat = (here + 1).toNat := by
  obtain ⟨k, rfl⟩ := Int.eq_ofNat_of_zero_le (Int.le_trans h0 h1)
  have e1 : ((k : Int) + 1).toNat = k + 1 := by omega
  simp only [Int.toNat_natCast, Int.ofNat_eq_natCast] at hf ⊢
  rw [e1, scan, if_neg]
  rw [hf]; simp

theorem clipAt_id {n : Nat} {i : Int} (h0 : 0 ≤ i) (h1 : i ≤ n) : clipAt n i = i.toNat := by
  unfold clipAt
  rw [if_neg (by omega)]
  omega

theorem litHead_none1 {ks : List Int} {i e : Int} (h : e - 1 < i) : litHead ks i.toNat e.toNat = none := by
  unfold litHead
  rw [if_pos]; left; omega
theorem litHead_none2 {ks : List Int} {i e : Int} (h0 : 0 ≤ i) (h : ¬ e - 1 < i) (h2 : ks.getD (e - 1).toNat 0 ≠ 125) : litHead ks i.toNat e.toNat = none := by
  unfold litHead
  rw [if_pos]; right; rwa [show e.toNat - 1 = (e - 1).toNat by omega]

theorem litHead_mid {ks : List Int} {i e : Int} (h0 : 0 ≤ i) (h1 : ¬ e - 1 < i) (h2 : ks.getD (e - 1).toNat 0 = 125) (wt : Bool) (hw : wt = decide (e - 1 - 1 < i ∨ ks.getD (e - 1 - 1).toNat 0 ≠ 43)) (last here : Int) (hl : last = if wt then e - 1 else e - 2) (hge : i - 1 ≤ here) (hs : (here + 1).toNat = scan ks i.toNat last.toNat) :
    litHead ks i.toNat e.toNat = if here < i ∨ ks.getD here.toNat 0 ≠ 123 ∨ ¬ (0 < last - (here + 1) ∧ last - (here + 1) ≤ 10) then none else some (numFig ((ks.drop (here + 1).toNat).take (last - (here + 1)).toNat), wt) := by
  have hw' : decide (e.toNat - 1 ≤ i.toNat ∨ ks.getD (e.toNat - 2) 0 ≠ 43) = wt := by
    rw [hw]
    apply decide_eq_decide.mpr
    rw [show (e - 1 - 1).toNat = e.toNat - 2 by omega]
    constructor
    · rintro (h | h)
      · left; omega
      · right; exact h
    · rintro (h | h)
      · left; omega
      · right; exact h
  have hl' : (if wt = true then e.toNat - 1 else e.toNat - 2) = last.toNat := by
    rw [hl]; split <;> omega
  unfold litHead
  rw [if_neg (by rw [show e.toNat - 1 = (e - 1).toNat by omega]; rintro (h | h); · omega
                 · exact h h2)]
  simp only [hw', hl', ← hs]
  rw [show (here + 1).toNat - 1 = here.toNat by omega, show last.toNat - (here + 1).toNat = (last - (here + 1)).toNat by omega]
  by_cases hc : here < i ∨ ks.getD here.toNat 0 ≠ 123 ∨ ¬ (0 < last - (here + 1) ∧ last - (here + 1) ≤ 10)
  · rw [if_pos hc, if_pos]
    rcases hc with h | h | h
    · left; omega
    · right; left; exact h
    · right; right; intro hh; apply h; omega
  · rw [if_neg hc, if_neg]
    rintro (h | h | h)
    · exact hc (.inl (by omega))
    · exact hc (.inr (.inl h))
    · exact hc (.inr (.inr (fun hh => h (by omega))))

def scanP (ks : List Int) (i x : Int) : Int × Tok → Prop := fun c => i - 1 ≤ c.1 ∧ c.1 ≤ x ∧ scan ks i.toNat (c.1 + 1).toNat = scan ks i.toNat (x + 1).toNat
theorem scanP_init {ks : List Int} {i x : Int} {t : Tok} (h : i - 1 ≤ x) : scanP ks i x (x, t) := ⟨h, Int.le_refl _, rfl⟩
theorem scanP_step {ks : List Int} {i x here : Int} {t' : Tok} (h0 : 0 ≤ i) (hP2 : here ≤ x) (hP3 : scan ks i.toNat (here + 1).toNat = scan ks i.toNat (x + 1).toNat) (h1 : i ≤ here) (hf : isFig (ks.getD here.toNat 0) = true) : scanP ks i x (here - 1, t') := ⟨by dsimp only; omega, by dsimp only; omega, by dsimp only; rw [← hP3]; exact (scan_go h0 h1 hf).symm⟩

theorem ksw_scan {prog : Program} {w : World} {A : Around} {E : Value → Shared → Prop} {Q : Flow → Shared → Prop} {s : Shared} {env : Env} {h₀ : Heap} {L : Addr} {test : Expr} {body : List Stmt} {pos : Pos} {m₀ : Str → Option Value} {news : List (Addr × Obj)} {ks : List Int} {i x : Int} {tx : Tok}
    (F : Fr h₀ L s.heap m₀) (N : News h₀ L s.heap news) (hx : m₀ (Str.ofString "here") = some (.int x tx)) (hi : i - 1 ≤ x)
    (turn : ∀ (here : Int) (th : Tok) h tk, i - 1 ≤ here → here ≤ x → scan ks i.toNat (here + 1).toNat = scan ks i.toNat (x + 1).toNat → Fr h₀ L h (fun z => if z = Str.ofString "here" then some (.int here th) else m₀ z) → News h₀ L h news →
      wpAny (model prog w) A (isTrue test env (eval test env)) (fun b s₂ =>
        if b = true then wpAny (model prog w) A (execs body env) (KswPost h₀ L s (fun _ => news) (fun c : Int × Tok => [(Str.ofString "here", .int c.1 c.2)]) (fun _ => True) [] m₀ (scanP ks i x) (fun c => (c.1 + 1).toNat) Q (here, th)) E s₂ else Q .next s₂) E { s with heap := h, toks := tk })
    (hE : PassesOwn (model prog w) A env E := by passes_own) :
    wpAny (model prog w) A (exec (.While test body [] pos) env) Q E s :=
  ksw_while (σ := Int × Tok) (fun _ => news) (fun c => [(Str.ofString "here", .int c.1 c.2)]) (fun _ => True) [] (scanP ks i x) (fun c => (c.1 + 1).toNat) (x, tx) F N True.intro (List.forall_mem_cons.mpr ⟨hx, List.forall_mem_nil _⟩) (scanP_init hi)
    (fun c u h tk _ hp F' N' => turn c.1 c.2 h tk hp.1 hp.2.1 hp.2.2 F' N') hE

/-- the slice between -/
theorem cut_len {n : Nat} {lo hi : Int} (h0 : 0 ≤ lo) (h1 : lo ≤ hi) (h2 : hi ≤ n) : ((min (clipAt n hi - clipAt n lo) (n - clipAt n lo) : Nat) : Int) = hi - lo := by
  rw [clipAt_id h0 (by omega), clipAt_id (by omega) h2]
  omega

theorem lit_end {ks : List Int} {i e : Int} (h0 : 0 ≤ i) (h2 : e ≤ ks.length) (h1 : ¬ e - 1 < i) (h125 : ks.getD (e - 1).toNat 0 = 125) (wt : Bool) (hw : wt = decide (e - 1 - 1 < i ∨ ks.getD (e - 1 - 1).toNat 0 ≠ 43)) (x here : Int) (hl : x = if wt then e - 1 - 1 else e - 1 - 1 - 1) (hP1 : i - 1 ≤ here) (hP2 : here ≤ x) (hP3 : scan ks i.toNat (here + 1).toNat = scan ks i.toNat (x + 1).toNat) (hno : ¬ i ≤ here ∨ isFig (ks.getD here.toNat 0) = false) :
    (here < i ∨ ks.getD here.toNat 0 ≠ 123 ∨ ¬ (0 < ((min (clipAt ks.length (x + 1) - clipAt ks.length (here + 1)) (ks.length - clipAt ks.length (here + 1)) : Nat) : Int)) ∨ ¬ (((min (clipAt ks.length (x + 1) - clipAt ks.length (here + 1)) (ks.length - clipAt ks.length (here + 1)) : Nat) : Int) ≤ 10) → litHead ks i.toNat e.toNat = none) ∧
    (¬ here < i → ks.getD here.toNat 0 = 123 → 0 < ((min (clipAt ks.length (x + 1) - clipAt ks.length (here + 1)) (ks.length - clipAt ks.length (here + 1)) : Nat) : Int) → ((min (clipAt ks.length (x + 1) - clipAt ks.length (here + 1)) (ks.length - clipAt ks.length (here + 1)) : Nat) : Int) ≤ 10 → litHead ks i.toNat e.toNat = some (numFig (List.take (clipAt ks.length (x + 1) - clipAt ks.length (here + 1)) (List.drop (clipAt ks.length (here + 1)) ks)), wt)) := by
  have hx : x + 1 ≤ ks.length := by rw [hl]; split <;> omega
  have hs : (here + 1).toNat = scan ks i.toNat (x + 1).toNat := by
    rw [← hP3]
    rcases Decidable.em (i ≤ here) with h | h
    · rcases hno with hn | hn
      · exact absurd h hn
      · exact (scan_no h0 h hn).symm
    · exact (scan_low h0 (by omega) hP1).symm
  have key := litHead_mid h0 h1 h125 wt hw (x + 1) here (by rw [hl]; cases wt <;> simp <;> omega) hP1 hs
  rw [cut_len (by omega) (by omega) hx, key]
  constructor
  · intro h
    rw [if_pos]
    rcases h with h | h | h | h
    · exact .inl h
    · exact .inr (.inl h)
    · exact .inr (.inr (fun hh => h hh.1))
    · exact .inr (.inr (fun hh => h hh.2))
  · intro a1 a2 a3 a4
    rw [if_neg]
    · rw [clipAt_id (i := here + 1) (by omega) (by omega), clipAt_id (i := x + 1) (by omega) hx]
      rw [show (x + 1 - (here + 1)).toNat = (x + 1).toNat - (here + 1).toNat by omega]
    · rintro (h | h | h)
      · exact a1 h
      · exact h a2
      · exact h ⟨a3, a4⟩

theorem literal_head_at (w : World) (news : List (Addr × Obj)) (b : Array UInt8) (ks : List Int) (hb : KBw.bInts b = ks) (hz : ks.length ≤ 1000000) (i e : Int) (h0 : 0 ≤ i) (h1 : i ≤ e) (h2 : e ≤ ks.length) (t ti te : Tok) :
    CallsAt w 42 2 [.bytes b t, .int i ti, .int e te] news (RetHead (litHead ks i.toNat e.toNat) news) := by
  dsimp only [CallsAt, RetHead]
  k_fill
  k_with_none
  k_with "exec While BoolOp" => (
    (rename Fr _ _ _ _ => lF); (rename News _ _ _ _ => lN);
    (refine' ksw_scan (ks := ks) (i := i) (news := news) lF lN ?kx ?ki ?_);
    (case kx => with_unfolding_all rfl);
    (case ki => omega);
    (clear lF lN);
    (intro here th hh tkk hP1 hP2 hP3 lF lN); (dsimp only at hP1 hP2 hP3 lF))
  k_with "state" => (exact scanP_step (by assumption) (by assumption) (by assumption) (by assumption) (by assumption))
  k_with "call ref" => (
    (refine' CallsAt.use ?k1 ?k2 ?k3 ?k4 ?k5 ?kK (is_figure_at _ _ _ _) ?kd ?ku ?_);
    (case k1 => k_asm); (case k2 => k_asm); (case k3 => k_asm); (case k4 => k_asm); (case k5 => k_asm); (case kK => first | exact rfl | assumption); (case kd => ktr_room); (case ku => ktr_units);
    (intro h9 tk9 F9 N9); (try dsimp only))
  k_with "call ref" => (
    (refine' CallsAt.use ?k1 ?k2 ?k3 ?k4 ?k5 ?kK (number_at _ _ _ _ (by assumption) _) ?kd ?ku ?_);
    (case k1 => k_asm); (case k2 => k_asm); (case k3 => k_asm); (case k4 => k_asm); (case k5 => k_asm); (case kK => first | exact rfl | assumption); (case kd => ktr_room); (case ku => ktr_units);
    (intro t9 h9 tk9 F9 N9); (try dsimp only))
  intros
  rename_i hret
  obtain ⟨hretN, hretS⟩ := hret
  refine wpAny_call ?_
  k_dflt cell_enter
  k_steps
  all_goals first
    | exact hretN (litHead_none1 (by assumption)) _ _ (by assumption) (by assumption)
    | exact hretN (litHead_none2 h0 (by assumption) (by assumption)) _ _ (by assumption) (by assumption)
    | exact hretN ((lit_end h0 h2 (by assumption) (by assumption) true (Eq.symm (decide_eq_true (by first | exact .inl (by assumption) | exact .inr (by assumption)))) _ here (by rfl) hP1 hP2 hP3 (by first | exact .inl (by assumption) | exact .inr (by assumption) | exact .inl (by omega))).1 (by first | exact .inl (by omega) | exact .inr (.inl (by assumption)) | exact .inr (.inr (.inl (by assumption))) | exact .inr (.inr (.inr (by assumption))))) _ _ (by assumption) (by assumption)
    | exact hretN ((lit_end h0 h2 (by assumption) (by assumption) false (Eq.symm (decide_eq_false (fun h => h.elim (fun h => absurd h (by assumption)) (fun h => h (by assumption))))) _ here (by rfl) hP1 hP2 hP3 (by first | exact .inl (by assumption) | exact .inr (by assumption) | exact .inl (by omega))).1 (by first | exact .inl (by omega) | exact .inr (.inl (by assumption)) | exact .inr (.inr (.inl (by assumption))) | exact .inr (.inr (.inr (by assumption))))) _ _ (by assumption) (by assumption)
    | skip
  · rename_i l1 kF kN Tc' kX
    have e9 : (ks.getD (e - 1 - 1).toNat 0 != 43) = true := bne_iff_ne.mpr (by assumption)
    rw [e9] at kN
    exact hretS _ _ ((lit_end h0 h2 (by assumption) (by assumption) true (Eq.symm (decide_eq_true (by first | exact .inl (by assumption) | exact .inr (by assumption)))) _ here (by rfl) hP1 hP2 hP3 (by first | exact .inl (by assumption) | exact .inr (by assumption) | exact .inl (by omega))).2 (by first | assumption | omega) (by assumption) (by assumption) (by assumption)) _ _ _ _ kF kN l1
  · rename_i l1 kF kN Tc' kX
    have e9 : (ks.getD (e - 1 - 1).toNat 0 != 43) = false := bne_eq_false_iff_eq.mpr (by assumption)
    rw [e9] at kN
    exact hretS _ _ ((lit_end h0 h2 (by assumption) (by assumption) false (Eq.symm (decide_eq_false (fun h => h.elim (fun h => absurd h (by assumption)) (fun h => h (by assumption))))) _ here (by rfl) hP1 hP2 hP3 (by first | exact .inl (by assumption) | exact .inr (by assumption) | exact .inl (by omega))).2 (by first | assumption | omega) (by assumption) (by assumption) (by assumption)) _ _ _ _ kF kN l1
end Mine

namespace Mine
open Builtin in
theorem slot_find : Slot "bytes" "find" "bytes.find" :=
  .of (owner := "bytes") (n := "find") (by rw [typeLookup_type, builtinLookup_eq_fast]; kernel_rfl) (by decide +kernel) (by decide +kernel) (by decide +kernel)
    (by first | exact .inl (by decide +kernel) | exact .inr (by decide +kernel)) (by rw [isSubtype_type]; kernel_rfl)
theorem entry_find : entryFor table "bytes.find" = some Builtin.«bytes.find» := entryFor_of_tree (by kernel_rfl)
theorem args_find (a b c : Value) : argsOk "bytes.find" ⟨[a, b, c], []⟩ := by
  unfold argsOk; rw [signature?_of (id := "bytes.find") (n := ['d', 'n', 'i', 'f']) (o := ['s', 'e', 't', 'y', 'b']) (by kernel_rfl) FB.owner_bytes]; kernel_rfl
theorem type_find : typeOf (.builtin "bytes.find") = pure (.type "method_descriptor") := by kernel_rfl

def foundAt : Option Nat → Int
  | some j => j
  | none => -1

open Builtin in
theorem meets_find {b c : Array UInt8} {t u v : Tok} {i : Int} :
    Meets («bytes.find» ⟨[.bytes b t, .bytes c u, .int i v], []⟩) (fun _ R s => ∀ t' k, R (.ok (.ret (.int (foundAt ((if (Bytes.window b.size (some i) none).2 - (Bytes.window b.size (some i) none).1 < c.size then none else some ((Bytes.window b.size (some i) none).1.toNat, (Bytes.window b.size (some i) none).2.toNat)).bind fun p => Bytes.find? b c p.1 p.2)) t'))) { s with toks := k }) := by
  refine .of_wp fun prog w A R s h => ?_
  show wpAny _ _ (Bytes.searchArgs .bytes "find" ⟨[.bytes b t, .bytes c u, .int i v], []⟩ >>= fun r => _) _ _ s
  refine wpAny_bind ?_
  unfold Bytes.searchArgs
  refine wpAny_bind (wpAny_of_eq (a := (Value.bytes b t, [.bytes c u, .int i v])) rfl ?_)
  show wpAny _ _ (Bytes.bound? (some (.int i v)) >>= fun r => _) _ _ s
  refine wpAny_bind ?_
  show wpAny _ _ (specialOf (.int i v) "__index__" >>= fun r => _) _ _ s
  refine wpAny_bind (wpAny_specialOf (T := "int") (typeIs_int _ _ _) F.slot_int_index.lookup ?_)
  refine wpAny_ite (KBy.ite_no (show ¬ (Option.isNone (some _) = true) from Bool.false_ne_true) ?_)
  refine wpAny_bind (wpAny_of_eq (a := i) rfl (wpAny_pure ?_))
  refine wpAny_bind (wpAny_of_eq (a := (none : Option Int)) rfl ?_)
  show wpAny _ _ (Bytes.buffer? _ (.bytes c u) >>= fun r => _) _ _ s
  refine wpAny_bind (wpAny_of_eq KBy.buffer_eq ?_)
  refine wpAny_bind (wpAny_pure ?_)
  refine wpAny_bind (wpAny_of_eq (a := b) rfl ?_)
  refine wpAny_pure ?_
  generalize ew : ((if (Bytes.window b.size (some i) none).2 - (Bytes.window b.size (some i) none).1 < c.size then none else some ((Bytes.window b.size (some i) none).1.toNat, (Bytes.window b.size (some i) none).2.toNat)).bind fun p => Bytes.find? b c p.1 p.2) = r at h
  show wpAny _ _ (match ((if (Bytes.window b.size (some i) none).2 - (Bytes.window b.size (some i) none).1 < c.size then none else some ((Bytes.window b.size (some i) none).1.toNat, (Bytes.window b.size (some i) none).2.toNat)).bind fun p => Bytes.find? b c p.1 p.2) with | some j => retInt j | none => _) _ _ s
  rw [ew]
  cases r with
  | some j => exact wpAny_bind (wpAny_mkInt (wpAny_pure ⟨_, rfl, h _ _⟩))
  | none => exact wpAny_bind (wpAny_rule (wpAny_bind (wpAny_mkInt (wpAny_pure ⟨_, rfl, h _ _⟩))))

theorem find_method {M : Model} {b : Array UInt8} {t : Tok} {s : Shared} {E : Value → Shared → Prop} {A : Around} {pl : Sem Bool} {Q : Value × List Value → Shared → Prop} (h : Q (.builtin "bytes.find", [.bytes b t]) s) : wpAny M A (getMethod (.bytes b t) "find" pl) Q E s := by
  with_reducible exact KBd.method_of (.bytes b t) (typeIs_bytes _ _ _) slot_find type_find KBd.noRef h

def crAt (ks : List Int) (j : Nat) : Bool := ks.getD j 0 == 13 && ks.getD (j + 1) 0 == 10
def findCR (ks : List Int) (i : Nat) : Option Nat := ((List.range (ks.length + 1 - (i + 2))).map (· + i)).find? (crAt ks)

theorem find_congr {α : Type} {p q : α → Bool} : ∀ {l : List α}, (∀ x ∈ l, p x = q x) → l.find? p = l.find? q
  | [], _ => rfl
  | x :: l, h => by
    simp only [List.find?, h x (.head _)]
    rw [find_congr fun y hy => h y (.tail _ hy)]

theorem bInts_len {b : Array UInt8} {ks : List Int} (hb : KBw.bInts b = ks) : b.size = ks.length := by
  subst hb; simp [KBw.bInts]

theorem crAt_eq {b : Array UInt8} {ks : List Int} (hb : KBw.bInts b = ks) {j : Nat} (hj : j + 2 ≤ ks.length) : (b.extract j (j + 2) == (#[13, 10] : Array UInt8)) = crAt ks j := by
  obtain ⟨l⟩ := b
  have hb' : l.map (fun c : UInt8 => (c.toNat : Int)) = ks := hb
  subst hb'
  rw [List.length_map] at hj
  have e1 : l.drop j = l[j]'(by omega) :: l[j + 1]'(by omega) :: l.drop (j + 2) := by
    rw [List.drop_eq_getElem_cons (by omega), List.drop_eq_getElem_cons (i := j + 1) (by omega)]
  have e2 : (⟨l⟩ : Array UInt8).extract j (j + 2) = #[l[j]'(by omega), l[j + 1]'(by omega)] := by
    apply Array.toList_inj.mp
    rw [Array.toList_extract, List.extract_eq_take_drop]
    show (l.drop j).take (j + 2 - j) = _
    rw [e1, show j + 2 - j = 2 by omega]
    rfl
  rw [e2]
  have g : ∀ i (hi : i < l.length), (l.map (fun c : UInt8 => (c.toNat : Int))).getD i 0 = ((l[i]'hi).toNat : Int) := by
    intro i hi
    rw [List.getD_eq_getElem?_getD, List.getElem?_map, List.getElem?_eq_getElem hi]; rfl
  unfold crAt
  rw [g j (by omega), g (j + 1) (by omega)]
  have q : ∀ (x : UInt8) (n : Nat) (hn : n < 256), x = UInt8.ofNat n ↔ (x.toNat : Int) = (n : Int) := by
    intro x n hn
    constructor
    · rintro rfl
      rw [UInt8.toNat_ofNat_of_lt' (by omega)]
    · intro h
      apply UInt8.toNat_inj.mp
      rw [UInt8.toNat_ofNat_of_lt' (by omega)]
      omega
  have q1 := q (l[j]'(by omega)) 13 (by omega)
  have q2 := q (l[j + 1]'(by omega)) 10 (by omega)
  rw [Bool.eq_iff_iff, beq_iff_eq, Bool.and_eq_true, beq_iff_eq, beq_iff_eq]
  constructor
  · intro h
    have h' := congrArg Array.toList h
    simp only [List.cons.injEq, and_true] at h'
    exact ⟨q1.mp h'.1, q2.mp h'.2⟩
  · rintro ⟨h1, h2⟩
    rw [q1.mpr h1, q2.mpr h2]
    rfl

theorem find_crlf {b : Array UInt8} {ks : List Int} (hb : KBw.bInts b = ks) {i : Int} (h0 : 0 ≤ i) :
    ((if (Builtin.Bytes.window b.size (some i) none).2 - (Builtin.Bytes.window b.size (some i) none).1 < (#[13, 10] : Array UInt8).size then none else some ((Builtin.Bytes.window b.size (some i) none).1.toNat, (Builtin.Bytes.window b.size (some i) none).2.toNat)).bind fun p => Builtin.Bytes.find? b #[13, 10] p.1 p.2) = findCR ks i.toNat := by
  have hw : Builtin.Bytes.window b.size (some i) none = (i, (b.size : Int)) := by
    unfold Builtin.Bytes.window
    simp only [Option.getD_some, Option.getD_none]
    rw [if_neg (by omega), if_neg (by omega)]
    congr 1
    omega
  rw [hw, bInts_len hb]
  have h2 : ((#[13, 10] : Array UInt8).size) = 2 := rfl
  rw [h2]
  unfold findCR
  by_cases hc : (ks.length : Int) - i < (2 : Nat)
  · rw [if_pos hc]
    rw [show ks.length + 1 - (i.toNat + 2) = 0 by omega]
    rfl
  · rw [if_neg hc]
    show Builtin.Bytes.find? b #[13, 10] i.toNat ((ks.length : Int)).toNat = _
    unfold Builtin.Bytes.find?
    rw [Int.toNat_natCast, h2]
    apply find_congr
    intro x hx
    obtain ⟨y, hy, rfl⟩ := List.mem_map.mp hx
    have := List.mem_range.mp hy
    exact crAt_eq hb (by omega)

section
variable {prog : Program} {w : World} {A : Around} {E : Value → Shared → Prop} {s : Shared} {b : Array UInt8} {ks : List Int} {t u v : Tok} {i : Int}
theorem find_call {Q : Value → Shared → Prop} (hb : KBw.bInts b = ks) (h0 : 0 ≤ i) (h : ∀ t' k, Q (.int (foundAt (findCR ks i.toNat)) t') { s with toks := k }) :
    wpAny (model prog w) A (call (.builtin "bytes.find") [.bytes b t, .bytes #[13, 10] u, .int i v]) Q E s :=
  call_meets slot_find (typeIs_bytes _ _ _) entry_find (args_find _ _ _) meets_find (by rw [find_crlf hb h0]; exact h)
end
end Mine

namespace Mine
local macro_rules | `(tactic| walk_at $s:str) => `(tactic| k_extra $s)

theorem findCR_some {ks : List Int} {i j : Nat} (h : findCR ks i = some j) : i ≤ j ∧ j + 2 ≤ ks.length := by
  have hm := List.mem_of_find?_eq_some h
  obtain ⟨y, hy, rfl⟩ := List.mem_map.mp hm
  have := List.mem_range.mp hy
  omega

section
variable {prog : Program} {w : World} {A : Around} {E : Value → Shared → Prop} {s : Shared} {b : Array UInt8} {ks : List Int} {t u v : Tok} {i : Int}
theorem find_call2 {Q : Value → Shared → Prop} (hb : KBw.bInts b = ks) (h0 : 0 ≤ i) (h1 : findCR ks i.toNat = none → ∀ t' k, Q (.int (-1) t') { s with toks := k })
    (h2 : ∀ j : Nat, findCR ks i.toNat = some j → i ≤ j → (j : Int) + 2 ≤ ks.length → ∀ t' k, Q (.int j t') { s with toks := k }) :
    wpAny (model prog w) A (call (.builtin "bytes.find") [.bytes b t, .bytes #[13, 10] u, .int i v]) Q E s := by
  refine find_call hb h0 fun t' k => ?_
  cases hf : findCR ks i.toNat with
  | none => exact h1 hf t' k
  | some j => 
    have := findCR_some hf
    exact h2 j hf (by omega) (by omega) t' k
end

theorem scan_le {ks : List Int} {b : Nat} : ∀ k, scan ks b k ≤ k
  | 0 => Nat.le_refl _
  | k + 1 => by
    rw [scan]; split
    · exact Nat.le_trans (scan_le k) (Nat.le_succ _)
    · exact Nat.le_refl _
theorem scan_figs {ks : List Int} {b : Nat} : ∀ k j, scan ks b k ≤ j → j < k → isFig (ks.getD j 0) = true
  | 0, _, _, h => absurd h (Nat.not_lt_zero _)
  | k + 1, j, h1, h2 => by
    rw [scan] at h1; split at h1
    · rename_i hc
      rcases Nat.lt_or_ge j k with h | h
      · exact scan_figs k j h1 h
      · rw [show j = k by omega]; exact hc.2
    · omega
theorem numFig_nonneg : ∀ (l : List Int) (a : Int), 0 ≤ a → (∀ c ∈ l, isFig c = true) → 0 ≤ l.foldl (fun n c => n * 10 + c - 48) a
  | [], a, h, _ => h
  | c :: l, a, h, hl => by
    have hc := hl c (.head _)
    unfold isFig at hc
    rw [decide_eq_true_eq] at hc
    exact numFig_nonneg l (a * 10 + c - 48) (by omega) fun x hx => hl x (.tail _ hx)
theorem litHead_nonneg {ks : List Int} {i e : Nat} {n : Int} {wt : Bool} (h : litHead ks i e = some (n, wt)) : 0 ≤ n := by
  unfold litHead at h
  by_cases c1 : e ≤ i ∨ ks.getD (e - 1) 0 ≠ 125
  · rw [if_pos c1] at h; cases h
  · rw [if_neg c1] at h
    dsimp only at h
    generalize (if decide (e - 1 ≤ i ∨ ks.getD (e - 2) 0 ≠ 43) = true then e - 1 else e - 2) = last at h
    by_cases c2 : scan ks i last ≤ i ∨ ks.getD (scan ks i last - 1) 0 ≠ 123 ∨ ¬ (0 < last - scan ks i last ∧ last - scan ks i last ≤ 10)
    · rw [if_pos c2] at h; cases h
    · rw [if_neg c2] at h
      obtain ⟨rfl, -⟩ := Prod.mk.inj (Option.some.inj h)
      refine numFig_nonneg _ 0 (Int.le_refl _) fun c hc => ?_
      obtain ⟨m, hm, rfl⟩ := List.mem_iff_getElem.mp hc
      rw [List.length_take, List.length_drop] at hm
      rw [List.getElem_take, List.getElem_drop]
      have hq := scan_figs (ks := ks) (b := i) last (scan ks i last + m) (by omega) (by omega)
      rw [List.getD_eq_getElem?_getD, List.getElem?_eq_getElem (by omega)] at hq
      exact hq

theorem allLt_all {d : Addr} : ∀ {l : List (Addr × Obj)}, AllLt d l → ∀ p ∈ l, p.1 < d
  | [], _, _, hp => nomatch hp
  | q :: l, h, p, hp => (List.mem_cons.mp hp).elim (fun e => e ▸ h.1) (fun hm => allLt_all h.2 p hm)

def cmdEnd (ks : List Int) : Nat → Nat → Int × Option (Int × Bool)
  | 0, _ => (-1, none)
  | f + 1, here =>
    match findCR ks here with
    | none => (-1, none)
    | some feed =>
      match litHead ks here feed with
      | none => ((feed : Int) + 2, none)
      | some (n, wt) =>
        if feed + 2 = ks.length then (-1, some (n, wt))
        else if (ks.length : Int) < (feed : Int) + 2 + n then (-1, none)
        else cmdEnd ks f ((feed : Int) + 2 + n).toNat

abbrev RetCmd (r : Int × Option (Int × Bool)) (news : List (Addr × Obj)) : RetP := fun Q h₀ L m s =>
  (r.2 = none → ∀ (a : Addr) (t : Tok) (h' : Heap) (tk' : Nat), Fr h₀ L h' m → News h₀ L h' ((a, tupObj [.int r.1 t, .none]) :: news) → (∀ p ∈ news, p.1 < a) → Q (.ref a) { s with heap := h', toks := tk' }) ∧
  (∀ (n : Int) (wt : Bool), r.2 = some (n, wt) → ∀ (a a' : Addr) (t t' : Tok) (h' : Heap) (tk' : Nat), Fr h₀ L h' m → News h₀ L h' ((a, tupObj [.int r.1 t, .ref a']) :: (a', tupObj [.int n t', .bool wt]) :: news) → (∀ p ∈ news, p.1 < a) → (∀ p ∈ news, p.1 < a') → Q (.ref a) { s with heap := h', toks := tk' })

theorem ksw_here {prog : Program} {w : World} {A : Around} {E : Value → Shared → Prop} {Q : Flow → Shared → Prop} {s : Shared} {env : Env} {h₀ : Heap} {L : Addr} {test : Expr} {body : List Stmt} {pos : Pos} {m₀ : Str → Option Value} {news : List (Addr × Obj)} {x : Int} {tx : Tok}
    (st : List Str) (P : Int → Prop) (μ : Int → Nat)
    (F : Fr h₀ L s.heap m₀) (N : News h₀ L s.heap news) (hx : m₀ (Str.ofString "here") = some (.int x tx)) (hi : P x)
    (turn : ∀ (here : Int) (th : Tok) (u : Str → Option Value) h tk, P here → Fr h₀ L h (fun z => if z = Str.ofString "here" then some (.int here th) else if st.contains z then u z else m₀ z) → News h₀ L h news →
      wpAny (model prog w) A (isTrue test env (eval test env)) (fun b s₂ =>
        if b = true then wpAny (model prog w) A (execs body env) (KswPost h₀ L s (fun _ => news) (fun c : Int × Tok => [(Str.ofString "here", .int c.1 c.2)]) (fun _ => True) st m₀ (fun c => P c.1) (fun c => μ c.1) Q (here, th)) E s₂ else Q .next s₂) E { s with heap := h, toks := tk })
    (hE : PassesOwn (model prog w) A env E := by passes_own) :
    wpAny (model prog w) A (exec (.While test body [] pos) env) Q E s :=
  ksw_while (σ := Int × Tok) (fun _ => news) (fun c => [(Str.ofString "here", .int c.1 c.2)]) (fun _ => True) st (fun c => P c.1) (fun c => μ c.1) (x, tx) F N True.intro (List.forall_mem_cons.mpr ⟨hx, List.forall_mem_nil _⟩) hi
    (fun c u h tk _ hp F' N' => turn c.1 c.2 u h tk hp F' N') hE

def cmdP (ks : List Int) (R : Int × Option (Int × Bool)) (here : Int) : Prop := 0 ≤ here ∧ here ≤ ks.length ∧ ∃ f, ks.length < here.toNat + f ∧ cmdEnd ks f here.toNat = R

theorem cmdP_init {ks : List Int} {i : Int} (h0 : 0 ≤ i) (h1 : i ≤ ks.length) : cmdP ks (cmdEnd ks (ks.length + 1) i.toNat) i := ⟨h0, h1, _, by omega, rfl⟩
theorem cmdP_none {ks R here} (h : cmdP ks R here) (hf : findCR ks here.toNat = none) : R = (-1, none) := by
  obtain ⟨h0, h1, f, h2, h3⟩ := h
  cases f with
  | zero => omega
  | succ f => rw [cmdEnd, hf] at h3; exact h3.symm
theorem cmdP_end {ks R here} {j : Nat} (h : cmdP ks R here) (hf : findCR ks here.toNat = some j) (hl : litHead ks here.toNat (j : Int).toNat = none) : R = ((j : Int) + 2, none) := by
  obtain ⟨h0, h1, f, h2, h3⟩ := h
  rw [Int.toNat_natCast] at hl
  cases f with
  | zero => omega
  | succ f => simp only [cmdEnd, hf, hl] at h3; exact h3.symm
theorem cmdP_ask {ks R here} {j : Nat} {n wt} (h : cmdP ks R here) (hf : findCR ks here.toNat = some j) (hl : litHead ks here.toNat (j : Int).toNat = some (n, wt)) (he : (j : Int) + 2 = ks.length) : R = (-1, some (n, wt)) := by
  obtain ⟨h0, h1, f, h2, h3⟩ := h
  rw [Int.toNat_natCast] at hl
  cases f with
  | zero => omega
  | succ f => simp only [cmdEnd, hf, hl] at h3; rw [if_pos (by omega)] at h3; exact h3.symm
theorem cmdP_over {ks R here} {j : Nat} {n wt} (h : cmdP ks R here) (hf : findCR ks here.toNat = some j) (hl : litHead ks here.toNat (j : Int).toNat = some (n, wt)) (he : ¬ (j : Int) + 2 = ks.length) (ho : (ks.length : Int) < (j : Int) + 2 + n) : R = (-1, none) := by
  obtain ⟨h0, h1, f, h2, h3⟩ := h
  rw [Int.toNat_natCast] at hl
  cases f with
  | zero => omega
  | succ f => simp only [cmdEnd, hf, hl] at h3; rw [if_neg (by omega), if_pos ho] at h3; exact h3.symm
theorem cmdP_step {ks R here} {j : Nat} {n wt} (h : cmdP ks R here) (hf : findCR ks here.toNat = some j) (hl : litHead ks here.toNat (j : Int).toNat = some (n, wt)) (he : ¬ (j : Int) + 2 = ks.length) (ho : ¬ (ks.length : Int) < (j : Int) + 2 + n) : cmdP ks R ((j : Int) + 2 + n) := by
  obtain ⟨h0, h1, f, h2, h3⟩ := h
  rw [Int.toNat_natCast] at hl
  have hn := litHead_nonneg hl
  have hj := findCR_some hf
  cases f with
  | zero => omega
  | succ f => simp only [cmdEnd, hf, hl] at h3; rw [if_neg (by omega), if_neg ho] at h3; exact ⟨by omega, by omega, f, by omega, h3⟩

theorem command_end_at (w : World) (news : List (Addr × Obj)) (b : Array UInt8) (ks : List Int) (hb : KBw.bInts b = ks) (hz : ks.length ≤ 1000000) (i : Int) (h0 : 0 ≤ i) (h1 : i ≤ ks.length) (t ti : Tok) :
    CallsAt w 49 4 [.bytes b t, .int i ti] news (RetCmd (cmdEnd ks (ks.length + 1) i.toNat) news) := by
  have hini := cmdP_init h0 h1
  generalize cmdEnd ks (ks.length + 1) i.toNat = R at hini ⊢
  dsimp only [CallsAt, RetCmd]
  k_fill
  k_with_none
  k_with "exec While" => (
    (rename Fr _ _ _ _ => lF); (rename News _ _ _ _ => lN);
    (refine' ksw_here (news := news) [Str.ofString "feed", Str.ofString "head"] (cmdP ks R) (fun x => (ks.length - x).toNat) lF lN ?kx ?ki ?_);
    (case kx => with_unfolding_all rfl);
    (case ki => exact hini);
    (clear lF lN);
    (intro here th u hh tkk hP lF lN); (dsimp only at lF);
    (have hPlo := hP.1); (have hPhi := hP.2.1))
  k_with "getMethod bytes" => (with_reducible refine find_method ?_)
  k_with "call builtin:bytes.find" => (refine find_call2 hb (by omega) (fun hf t' k => ?_) (fun j hf hj1 hj2 t' k => ?_))
  k_with "call ref" => (
    (refine' CallsAt.use ?k1 ?k2 ?k3 ?k4 ?k5 ?kK (literal_head_at _ _ _ _ hb hz _ _ ?p0 ?p1 ?p2 _ _ _) ?kd ?ku ?_);
    (case k1 => k_asm); (case k2 => k_asm); (case k3 => k_asm); (case k4 => k_asm); (case k5 => k_asm); (case kK => first | exact rfl | assumption); (case p0 => omega); (case p1 => omega); (case p2 => omega); (case kd => ktr_room); (case ku => ktr_units);
    (refine ⟨fun hl h9 tk9 F9 N9 => ?_, fun n wt hl a9 t9 h9 tk9 F9 N9 hlt9 => ?_⟩);
    (all_goals try dsimp only [tupObj] at *);
    (all_goals try have hn0 := litHead_nonneg hl))
  k_with "state" => (exact cmdP_step (by assumption) (by assumption) (by assumption) (by assumption) (by assumption))
  intros
  rename_i hret
  obtain ⟨hretN, hretS⟩ := hret
  refine wpAny_call ?_
  k_dflt cell_enter
  k_steps
  · rename_i l1 kF kN _ _
    exact hretN (by rw [cmdP_none hP hf]) _ _ _ _ kF (by rw [cmdP_none hP hf]; exact kN) l1
  · rename_i l1 kF kN _ _
    exact hretN (by rw [cmdP_end hP hf hl]) _ _ _ _ kF (by rw [cmdP_end hP hf hl]; exact kN) l1
  · rename_i l1 kF kN _ _
    exact hretS _ _ (by rw [cmdP_ask hP hf hl (by assumption)]) _ _ _ _ _ _ kF (by rw [cmdP_ask hP hf hl (by assumption)]; exact kN) (allLt_all l1.2) hlt9
  · rename_i l1 kF kN _ _
    exact hretN (by rw [cmdP_over hP hf hl (by assumption) (by assumption)]) _ _ _ _ kF (by rw [cmdP_over hP hf hl (by assumption) (by assumption)]; exact news_sub kN fun p hp => (List.mem_cons.mp hp).elim (fun h => h ▸ .head _) (fun h => .tail _ (.tail _ h))) (allLt_all l1.2)
end Mine

namespace Mine
local macro_rules | `(tactic| walk_at $s:str) => `(tactic| k_extra $s)

def longHead (ks : List Int) (most : Int) : Nat → Nat → Option (Int × Bool)
  | 0, _ => none
  | f + 1, here =>
    if ks.length < here then none else
    match findCR ks here with
    | none => none
    | some feed =>
      match litHead ks here feed with
      | none => none
      | some (n, wt) =>
        if most < n then some ((feed : Int) + 2, wt)
        else longHead ks most f ((feed : Int) + 2 + n).toNat

def lonP (ks : List Int) (most : Int) (R : Option (Int × Bool)) (here : Int) : Prop := 0 ≤ here ∧ ∃ f, ks.length < here.toNat + f ∧ longHead ks most f here.toNat = R

theorem lonP_init {ks : List Int} {most i : Int} (h0 : 0 ≤ i) : lonP ks most (longHead ks most (ks.length + 1) i.toNat) i := ⟨h0, _, by omega, rfl⟩
theorem lonP_out {ks most R here} (h : lonP ks most R here) (ho : ¬ here ≤ (ks.length : Int)) : R = none := by
  obtain ⟨h0, f, h2, h3⟩ := h
  cases f with
  | zero => exact h3.symm
  | succ f => rw [longHead, if_pos (by omega)] at h3; exact h3.symm
theorem lonP_none {ks most R here} (h : lonP ks most R here) (ho : here ≤ (ks.length : Int)) (hf : findCR ks here.toNat = none) : R = none := by
  obtain ⟨h0, f, h2, h3⟩ := h
  cases f with
  | zero => exact h3.symm
  | succ f => rw [longHead, if_neg (by omega), hf] at h3; exact h3.symm
theorem lonP_end {ks most R here} {j : Nat} (h : lonP ks most R here) (ho : here ≤ (ks.length : Int)) (hf : findCR ks here.toNat = some j) (hl : litHead ks here.toNat (j : Int).toNat = none) : R = none := by
  obtain ⟨h0, f, h2, h3⟩ := h
  rw [Int.toNat_natCast] at hl
  cases f with
  | zero => exact h3.symm
  | succ f => rw [longHead, if_neg (by omega)] at h3; simp only [hf, hl] at h3; exact h3.symm
theorem lonP_big {ks most R here} {j : Nat} {n wt} (h : lonP ks most R here) (ho : here ≤ (ks.length : Int)) (hf : findCR ks here.toNat = some j) (hl : litHead ks here.toNat (j : Int).toNat = some (n, wt)) (hb : most < n) : R = some ((j : Int) + 2, wt) := by
  obtain ⟨h0, f, h2, h3⟩ := h
  rw [Int.toNat_natCast] at hl
  cases f with
  | zero => omega
  | succ f => rw [longHead, if_neg (by omega)] at h3; simp only [hf, hl] at h3; rw [if_pos hb] at h3; exact h3.symm
theorem lonP_step {ks most R here} {j : Nat} {n wt} (h : lonP ks most R here) (ho : here ≤ (ks.length : Int)) (hf : findCR ks here.toNat = some j) (hl : litHead ks here.toNat (j : Int).toNat = some (n, wt)) (hb : ¬ most < n) : lonP ks most R ((j : Int) + 2 + n) := by
  obtain ⟨h0, f, h2, h3⟩ := h
  rw [Int.toNat_natCast] at hl
  have hn := litHead_nonneg hl
  have hj := findCR_some hf
  cases f with
  | zero => omega
  | succ f => rw [longHead, if_neg (by omega)] at h3; simp only [hf, hl] at h3; rw [if_neg hb] at h3; exact ⟨by omega, f, by omega, h3⟩

theorem long_head_at (w : World) (news : List (Addr × Obj)) (b : Array UInt8) (ks : List Int) (hb : KBw.bInts b = ks) (hz : ks.length ≤ 1000000) (i most : Int) (h0 : 0 ≤ i) (t ti tm : Tok) :
    CallsAt w 56 4 [.bytes b t, .int i ti, .int most tm] news (RetHead (longHead ks most (ks.length + 1) i.toNat) news) := by
  have hini := lonP_init (ks := ks) (most := most) h0
  generalize longHead ks most (ks.length + 1) i.toNat = R at hini ⊢
  dsimp only [CallsAt, RetHead]
  k_fill
  k_with_none
  k_with "exec While Compare" => (
    (rename Fr _ _ _ _ => lF); (rename News _ _ _ _ => lN);
    (refine' ksw_here (news := news) [Str.ofString "feed", Str.ofString "head"] (lonP ks most R) (fun x => (ks.length + 1 - x).toNat) lF lN ?kx ?ki ?_);
    (case kx => with_unfolding_all rfl);
    (case ki => exact hini);
    (clear lF lN);
    (intro here th u hh tkk hP lF lN); (dsimp only at lF);
    (have hPlo := hP.1))
  k_with "getMethod bytes" => (with_reducible refine find_method ?_)
  k_with "call builtin:bytes.find" => (refine find_call2 hb (by omega) (fun hf t' k => ?_) (fun j hf hj1 hj2 t' k => ?_))
  k_with "call ref" => (
    (refine' CallsAt.use ?k1 ?k2 ?k3 ?k4 ?k5 ?kK (literal_head_at _ _ _ _ hb hz _ _ ?p0 ?p1 ?p2 _ _ _) ?kd ?ku ?_);
    (case k1 => k_asm); (case k2 => k_asm); (case k3 => k_asm); (case k4 => k_asm); (case k5 => k_asm); (case kK => first | exact rfl | assumption); (case p0 => omega); (case p1 => omega); (case p2 => omega); (case kd => ktr_room); (case ku => ktr_units);
    (refine ⟨fun hl h9 tk9 F9 N9 => ?_, fun n wt hl a9 t9 h9 tk9 F9 N9 hlt9 => ?_⟩);
    (all_goals try dsimp only [tupObj] at *);
    (all_goals try have hn0 := litHead_nonneg hl))
  k_with "state" => (exact lonP_step (by assumption) (by assumption) (by assumption) (by assumption) (by assumption))
  intros
  rename_i hret
  obtain ⟨hretN, hretS⟩ := hret
  refine wpAny_call ?_
  k_dflt cell_enter
  k_steps
  · exact hretN (lonP_none hP (by assumption) hf) _ _ (by assumption) (by assumption)
  · exact hretN (lonP_end hP (by assumption) hf hl) _ _ (by assumption) (by assumption)
  · rename_i l1 kF kN _ _
    exact hretS _ _ (lonP_big hP (by assumption) hf hl (by first | assumption | omega)) _ _ _ _ kF (news_sub kN fun p hp => (List.mem_cons.mp hp).elim (fun h => h ▸ .head _) (fun h => .tail _ (.tail _ h))) (allLt_all l1.2)
  · exact hretN (lonP_out hP (by assumption)) _ _ (by assumption) (by assumption)
end Mine

namespace Mine
local macro_rules | `(tactic| walk_at $s:str) => `(tactic| k_extra $s)
local macro_rules | `(tactic| k_all) => `(tactic| assumption)
local macro_rules | `(tactic| k_ne) => `(tactic| assumption)

abbrev cutObj (w : World) (t1 t2 tb ta : Tok) (held : Array UInt8) (asked : Int) : Obj :=
  dictOf [{ hash := PyData.keyHash w.params (Str.ofString "held"), key := .str (Str.ofString "held") t1, val := .bytes held tb }, { hash := PyData.keyHash w.params (Str.ofString "asked"), key := .str (Str.ofString "asked") t2, val := .int asked ta }] 2
/-- nothing beside the cutter lies at its places -/
structure CutApart (x dx : Addr) (rest : List (Addr × Obj)) : Prop where
  a : dx ≠ x
  b : x ≠ dx
  c : ∀ p ∈ rest, p.1 ≠ dx
  d : ∀ p ∈ rest, p.1 ≠ x
abbrev RetCut (w : World) (x dx : Addr) (ks : List Int) (asked : Int) (rest : List (Addr × Obj)) : RetP := fun Q h₀ L m s =>
  ∀ (held : Array UInt8) (t1 t2 tb ta : Tok) (h' : Heap) (tk' : Nat), KBw.bInts held = ks → Fr h₀ L h' m → News h₀ L h' ((x, instObj 101 dx) :: (dx, cutObj w t1 t2 tb ta held asked) :: rest) → Q .none { s with heap := h', toks := tk' }

theorem add_at (w : World) (rest : List (Addr × Obj)) (x dx : Addr) (A : CutApart x dx rest) (held o : Array UInt8) (t1 t2 tb ta t : Tok) (asked : Int) (ks os : List Int) (hk : KBw.bInts held = ks) (ho : KBw.bInts o = os) (hz : ks.length + os.length ≤ 1000000) :
    CallsAt w 77 2 [.ref x, .bytes o t] ((x, instObj 101 dx) :: (dx, cutObj w t1 t2 tb ta held asked) :: rest) (RetCut w x dx (ks ++ os) asked rest) := by
  obtain ⟨a1, a2, a3, a4⟩ := A
  dsimp only [CallsAt, RetCut, cutObj]
  k_fill
  k_with_none
  intros
  rename_i hret
  refine wpAny_call ?_
  k_dflt cell_enter
  k_steps
  all_goals exact hret _ _ _ _ _ _ _ (by assumption) (by assumption) (by assumption)

theorem drop_at (w : World) (rest : List (Addr × Obj)) (x dx : Addr) (A : CutApart x dx rest) (held : Array UInt8) (t1 t2 tb ta t : Tok) (asked : Int) (ks : List Int) (hk : KBw.bInts held = ks) (hz : ks.length ≤ 1000000) (n : Int) (h0 : 0 ≤ n) (h1 : n ≤ ks.length) :
    CallsAt w 91 2 [.ref x, .int n t] ((x, instObj 101 dx) :: (dx, cutObj w t1 t2 tb ta held asked) :: rest) (RetCut w x dx (ks.drop n.toNat) (-1) rest) := by
  obtain ⟨a1, a2, a3, a4⟩ := A
  dsimp only [CallsAt, RetCut, cutObj]
  k_fill
  k_with_none
  intros
  rename_i hret
  refine wpAny_call ?_
  k_dflt cell_enter
  k_steps
  all_goals
    refine hret _ _ _ _ _ _ _ (show KBw.bInts (KBy.picked held (some n) none) = _ from ?_) (by assumption) (by assumption)
    rw [(by assumption : KBw.bInts (KBy.picked held (some n) none) = List.take (ks.length - clipAt ks.length n) (List.drop (clipAt ks.length n) ks)), clipAt_id h0 h1, List.take_of_length_le (by rw [List.length_drop]; exact Nat.le_refl _)]
end Mine

namespace Mine
local macro_rules | `(tactic| walk_at $s:str) => `(tactic| k_extra $s)
local macro_rules | `(tactic| k_all) => `(tactic| first | assumption | (refine' List.forall_mem_cons.mpr ⟨?a, ?b⟩; (case a => k_ne); (case b => k_all)))
local macro_rules | `(tactic| k_ne) => `(tactic| first | assumption | exact Nat.ne_of_gt (by assumption) | (refine neN ?_; (try dsimp only); omega))

/-- a step: its word and its bytes; what is held then; what was asked -/
def nextStep (ks : List Int) (asked : Int) : Option (Str × List Int) × List Int × Int :=
  match longHead ks 1000000 (ks.length + 1) 0 with
  | some (e, wt) => (some (if wt = true then Str.ofString "refuse" else Str.ofString "end", ks.take e.toNat), ks.drop e.toNat, -1)
  | none =>
    match cmdEnd ks (ks.length + 1) 0 with
    | (e, hd) =>
      if 0 ≤ e then (some (Str.ofString "command", ks.take e.toNat), ks.drop e.toNat, -1)
      else match hd with
        | none => (none, ks, asked)
        | some (_, wt) => if wt = false ∨ asked = ks.length then (none, ks, asked) else (some (Str.ofString "ask", []), ks, (ks.length : Int))

abbrev RetStep (w : World) (x dx : Addr) (r : Option (Str × List Int) × List Int × Int) (rest : List (Addr × Obj)) : RetP := fun Q h₀ L m s =>
  (r.1 = none → ∀ (held : Array UInt8) (t1 t2 tb ta : Tok) (h' : Heap) (tk' : Nat), KBw.bInts held = r.2.1 → Fr h₀ L h' m → News h₀ L h' ((x, instObj 101 dx) :: (dx, cutObj w t1 t2 tb ta held r.2.2) :: rest) → Q .none { s with heap := h', toks := tk' }) ∧
  (∀ kind bs, r.1 = some (kind, bs) → ∀ (a : Addr) (fb held : Array UInt8) (tk tf t1 t2 tb ta : Tok) (h' : Heap) (tk' : Nat), KBw.bInts fb = bs → KBw.bInts held = r.2.1 → Fr h₀ L h' m →
    News h₀ L h' ((a, tupObj [.str kind tk, .bytes fb tf]) :: (x, instObj 101 dx) :: (dx, cutObj w t1 t2 tb ta held r.2.2) :: rest) → x < a → dx < a → (∀ p ∈ rest, p.1 < a) → Q (.ref a) { s with heap := h', toks := tk' })

section
variable {ks : List Int} {asked e n : Int} {wt : Bool} {hd : Option (Int × Bool)}
theorem ns_long (h : longHead ks 1000000 (ks.length + 1) 0 = some (e, wt)) : nextStep ks asked = (some (if wt = true then Str.ofString "refuse" else Str.ofString "end", ks.take e.toNat), ks.drop e.toNat, -1) := by
  unfold nextStep; rw [h]
theorem ns_cmd (h : longHead ks 1000000 (ks.length + 1) 0 = none) (hc : cmdEnd ks (ks.length + 1) 0 = (e, hd)) (he : 0 ≤ e) : nextStep ks asked = (some (Str.ofString "command", ks.take e.toNat), ks.drop e.toNat, -1) := by
  unfold nextStep; rw [h, hc]; dsimp only; rw [if_pos he]
theorem ns_none1 (h : longHead ks 1000000 (ks.length + 1) 0 = none) (hc : cmdEnd ks (ks.length + 1) 0 = (e, none)) (he : ¬ 0 ≤ e) : nextStep ks asked = (none, ks, asked) := by
  unfold nextStep; rw [h, hc]; dsimp only; rw [if_neg he]
theorem ns_none2 (h : longHead ks 1000000 (ks.length + 1) 0 = none) (hc : cmdEnd ks (ks.length + 1) 0 = (e, some (n, wt))) (he : ¬ 0 ≤ e) (hw : wt = false ∨ asked = ks.length) : nextStep ks asked = (none, ks, asked) := by
  unfold nextStep; rw [h, hc]; dsimp only; rw [if_neg he, if_pos hw]
theorem ns_ask (h : longHead ks 1000000 (ks.length + 1) 0 = none) (hc : cmdEnd ks (ks.length + 1) 0 = (e, some (n, wt))) (he : ¬ 0 ≤ e) (hw : ¬ wt = false) (ha : ¬ asked = ks.length) : nextStep ks asked = (some (Str.ofString "ask", []), ks, (ks.length : Int)) := by
  unfold nextStep; rw [h, hc]; dsimp only; rw [if_neg he, if_neg (fun h => h.elim hw ha)]
end

theorem longHead_le {ks : List Int} {most e : Int} {wt : Bool} : ∀ {f here}, longHead ks most f here = some (e, wt) → 0 ≤ e ∧ e ≤ ks.length
  | 0, _, h => by cases h
  | f + 1, here, h => by
    rw [longHead] at h
    by_cases c : ks.length < here
    · rw [if_pos c] at h; cases h
    · rw [if_neg c] at h
      cases hf : findCR ks here with
      | none => rw [hf] at h; cases h
      | some j =>
        rw [hf] at h; dsimp only at h
        have := findCR_some hf
        cases hl : litHead ks here j with
        | none => rw [hl] at h; cases h
        | some q =>
          obtain ⟨n, w⟩ := q
          rw [hl] at h; dsimp only at h
          by_cases c2 : most < n
          · rw [if_pos c2] at h
            obtain ⟨rfl, -⟩ := Prod.mk.inj (Option.some.inj h)
            omega
          · rw [if_neg c2] at h
            exact longHead_le h
theorem cmdEnd_le {ks : List Int} {e : Int} {hd} : ∀ {f here}, cmdEnd ks f here = (e, hd) → e ≤ ks.length
  | 0, _, h => by obtain ⟨rfl, -⟩ := Prod.mk.inj h; omega
  | f + 1, here, h => by
    rw [cmdEnd] at h
    cases hf : findCR ks here with
    | none => rw [hf] at h; obtain ⟨rfl, -⟩ := Prod.mk.inj h; omega
    | some j =>
      rw [hf] at h; dsimp only at h
      have := findCR_some hf
      cases hl : litHead ks here j with
      | none => rw [hl] at h; obtain ⟨rfl, -⟩ := Prod.mk.inj h; omega
      | some q =>
        obtain ⟨n, w⟩ := q
        rw [hl] at h; dsimp only at h
        by_cases c1 : j + 2 = ks.length
        · rw [if_pos c1] at h; obtain ⟨rfl, -⟩ := Prod.mk.inj h; omega
        · rw [if_neg c1] at h
          by_cases c2 : (ks.length : Int) < (j : Int) + 2 + n
          · rw [if_pos c2] at h; obtain ⟨rfl, -⟩ := Prod.mk.inj h; omega
          · rw [if_neg c2] at h; exact cmdEnd_le h

theorem cmdEnd_some {ks : List Int} {e : Int} {hd} {q} (h : cmdEnd ks (ks.length + 1) 0 = (e, hd)) (hq : hd = some q) : e = -1 := by
  have : ∀ f here, cmdEnd ks f here = (e, hd) → e = -1 := by
    intro f
    induction f with
    | zero => intro here h; exact (Prod.mk.inj h).1.symm
    | succ f ih =>
      intro here h
      rw [cmdEnd] at h
      cases hf : findCR ks here with
      | none => rw [hf] at h; exact (Prod.mk.inj h).1.symm
      | some j =>
        rw [hf] at h; dsimp only at h
        cases hl : litHead ks here j with
        | none => rw [hl] at h; have := (Prod.mk.inj h).2; rw [hq] at this; cases this
        | some q =>
          obtain ⟨n, w⟩ := q
          rw [hl] at h; dsimp only at h
          split at h
          · exact (Prod.mk.inj h).1.symm
          · split at h
            · exact (Prod.mk.inj h).1.symm
            · exact ih _ h
  exact this _ _ h

theorem CutApart.cons {x dx a : Addr} {o : Obj} {rest : List (Addr × Obj)} (A : CutApart x dx rest) (h1 : x < a) (h2 : dx < a) : CutApart x dx ((a, o) :: rest) :=
  ⟨A.a, A.b, List.forall_mem_cons.mpr ⟨Nat.ne_of_gt h2, A.c⟩, List.forall_mem_cons.mpr ⟨Nat.ne_of_gt h1, A.d⟩⟩
theorem sub_a {α : Type} {a b c d : α} {l : List α} : ∀ p ∈ a :: b :: c :: l, p ∈ a :: b :: c :: d :: l := fun p h => by
  simp only [List.mem_cons] at h ⊢
  rcases h with h | h | h | h <;> simp [h]
theorem sub_c {α : Type} {a b : α} {l : List α} : ∀ p ∈ l, p ∈ a :: b :: l := fun p h => .tail _ (.tail _ h)
theorem sub_d {α : Type} {a b c : α} {l : List α} : ∀ p ∈ a :: l, p ∈ a :: b :: c :: l := fun p h => by
  simp only [List.mem_cons] at h ⊢
  rcases h with h | h <;> simp [h]
theorem perm3 {α : Type} {a b c : α} {l : List α} : ∀ p ∈ a :: b :: c :: l, p ∈ c :: a :: b :: l := fun p h => by
  simp only [List.mem_cons] at h ⊢
  rcases h with h | h | h | h <;> simp [h]
theorem command_end_eq (w : World) (news : List (Addr × Obj)) (b : Array UInt8) (ks : List Int) (hb : KBw.bInts b = ks) (hz : ks.length ≤ 1000000) (t ti : Tok) {R} (hR : cmdEnd ks (ks.length + 1) 0 = R) :
    CallsAt w 49 4 [.bytes b t, .int 0 ti] news (RetCmd R news) := by
  have := command_end_at w news b ks hb hz 0 (Int.le_refl 0) (by omega) t ti
  rwa [show Int.toNat 0 = 0 from rfl, hR] at this

theorem next_step_at (w : World) (rest : List (Addr × Obj)) (x dx : Addr) (A : CutApart x dx rest) (held : Array UInt8) (t1 t2 tb ta : Tok) (asked : Int) (ks : List Int) (hk : KBw.bInts held = ks) (hz : ks.length ≤ 1000000) :
    CallsAt w 98 7 [.ref x] ((x, instObj 101 dx) :: (dx, cutObj w t1 t2 tb ta held asked) :: rest) (RetStep w x dx (nextStep ks asked) rest) := by
  have A0 := A
  obtain ⟨a1, a2, a3, a4⟩ := A
  rcases hce : cmdEnd ks (ks.length + 1) 0 with ⟨e, hd⟩
  have hee := cmdEnd_le hce
  dsimp only [CallsAt, RetStep, cutObj]
  k_fill
  k_with_none
  k_with "call ref" => (
    (refine' CallsAt.use ?k1 ?k2 ?k3 ?k4 ?k5 ?kK (long_head_at _ _ _ _ hk hz _ _ (Int.le_refl 0) _ _ _) ?kd ?ku ?_);
    (case k1 => k_asm); (case k2 => k_asm); (case k3 => k_asm); (case k4 => k_asm); (case k5 => k_asm); (case kK => first | exact rfl | assumption); (case kd => ktr_room); (case ku => ktr_units);
    (refine ⟨fun hl h9 tk9 F9 N9 => ?_, fun n wt hl a9 t9 h9 tk9 F9 N9 hlt9 => ?_⟩);
    (all_goals try dsimp only [tupObj] at *);
    (all_goals try have hx9 := hlt9 _ (.head _));
    (all_goals try have hd9 := hlt9 _ (.tail _ (.head _)));
    (all_goals try have hr9 := fun p hp => hlt9 p (.tail _ (.tail _ hp)));
    (all_goals try have hn9 := longHead_le hl);
    (all_goals try dsimp only at hx9 hd9))
  k_with "call ref" => (
    (refine' CallsAt.use ?k1 ?k2 ?k3 ?k4 ?k5 ?kK (command_end_eq _ _ _ _ hk hz _ _ hce) ?kd ?ku ?_);
    (case k1 => k_asm); (case k2 => k_asm); (case k3 => k_asm); (case k4 => k_asm); (case k5 => k_asm); (case kK => first | exact rfl | assumption); (case kd => ktr_room); (case ku => ktr_units);
    (refine ⟨fun hq a9 t9 h9 tk9 F9 N9 hlt9 => ?_, fun n wt hq a9 a8 t9 t8 h9 tk9 F9 N9 hlt9 hlt8 => ?_⟩);
    (all_goals try dsimp only [tupObj] at *);
    (all_goals try have hx9 := hlt9 _ (.head _));
    (all_goals try have hd9 := hlt9 _ (.tail _ (.head _)));
    (all_goals try have hr9 := fun p hp => hlt9 p (.tail _ (.tail _ hp)));
    (all_goals try have hx8 := hlt8 _ (.head _));
    (all_goals try have hd8 := hlt8 _ (.tail _ (.head _)));
    (all_goals try have he8 := cmdEnd_some hce hq);
    (all_goals try dsimp only at hx8 hd8);
    (all_goals try dsimp only at hx9 hd9))
  k_with "call ref" => (
    (refine' CallsAt.use ?k1 ?k2 ?k3 ?k4 ?k5 ?kK (drop_at _ _ _ _ (A0.cons (by assumption) (by assumption)) _ _ _ _ _ _ _ _ hk hz _ ?p0 ?p1) ?kd ?ku ?_);
    (case k1 => k_asm); (case k2 => k_asm); (case k3 => k_asm); (case k4 => exact news_sub (by assumption) perm3); (case k5 => k_asm); (case kK => first | exact rfl | assumption); (case p0 => omega); (case p1 => omega); (case kd => ktr_room); (case ku => ktr_units);
    (intro held9 t91 t92 t93 t94 h9 tk9 hk9 F9 N9);
    (try dsimp only [cutObj] at *))
  intros
  rename_i hret
  obtain ⟨hretN, hretS⟩ := hret
  refine wpAny_call ?_
  k_dflt cell_enter
  k_steps
  · rename_i l1 kF kN _ _
    have hns := ns_cmd (asked := asked) hl hce (by assumption)
    exact hretS _ _ (by rw [hns]) _ _ _ _ _ _ _ _ _ _ _ (by rw [(by assumption : KBw.bInts (KBy.picked held none (some e)) = List.take (clipAt ks.length e) ks), clipAt_id (by assumption) hee]) (by rw [hns]; exact hk9) kF (by rw [hns]; exact news_sub kN sub_a) l1.1 l1.2.1 (allLt_all l1.2.2.2)
  · rename_i kF kN _ _
    have hq' : hd = none := hq
    subst hq'
    have hns := ns_none1 (asked := asked) hl hce (by assumption)
    exact hretN (by rw [hns]) _ _ _ _ _ _ _ (by rw [hns]; exact hk) kF (by rw [hns]; exact news_sub kN in_tail)
  · rename_i kF kN _ _
    have hq' : hd = some (n, wt) := hq
    subst hq'
    have hns := ns_none2 (asked := asked) hl hce (by omega) (.inr (by assumption))
    exact hretN (by rw [hns]) _ _ _ _ _ _ _ (by rw [hns]; exact hk) kF (by rw [hns]; exact news_sub kN sub_c)
  · rename_i l1 kF kN _ _
    have hq' : hd = some (n, wt) := hq
    subst hq'
    have hns := ns_ask (asked := asked) hl hce (by omega) (by simp [*]) (by assumption)
    exact hretS (Str.ofString "ask") [] (by rw [hns]) _ #[] _ _ _ _ _ _ _ _ _ rfl (by rw [hns]; exact hk) kF (by rw [hns]; exact news_sub kN sub_d) l1.2.2.1 l1.2.2.2.1 (allLt_all l1.2.2.2.2)
  · rename_i kF kN _ _
    have hq' : hd = some (n, wt) := hq
    subst hq'
    have hns := ns_none2 (asked := asked) hl hce (by omega) (.inl (by assumption))
    exact hretN (by rw [hns]) _ _ _ _ _ _ _ (by rw [hns]; exact hk) kF (by rw [hns]; exact news_sub kN sub_c)
  · rename_i hw l1 kF kN _ _
    have hns := ns_long (asked := asked) hl
    have hw9 : wt = true := by assumption
    subst hw9
    exact hretS _ _ (by rw [hns]) _ _ _ _ _ _ _ _ _ _ _ (by rw [(by assumption : KBw.bInts (KBy.picked held none (some n)) = List.take (clipAt ks.length n) ks), clipAt_id hn9.1 hn9.2]) (by rw [hns]; exact hk9) kF (by rw [hns]; exact news_sub kN sub_a) l1.1 l1.2.1 (allLt_all l1.2.2.2)
  · rename_i hw l1 kF kN _ _
    have hns := ns_long (asked := asked) hl
    have hw9 : wt = false := by assumption
    subst hw9
    exact hretS _ _ (by rw [hns]) _ _ _ _ _ _ _ _ _ _ _ (by rw [(by assumption : KBw.bInts (KBy.picked held none (some n)) = List.take (clipAt ks.length n) ks), clipAt_id hn9.1 hn9.2]) (by rw [hns]; exact hk9) kF (by rw [hns]; exact news_sub kN sub_a) l1.1 l1.2.1 (allLt_all l1.2.2.2)
end Mine

namespace Mine

section
variable {prog : Program} {w : World} {A : Around} {E : Value → Shared → Prop} {s : Shared} {env : Env} {h₀ : Heap} {x : Str} {body : List Stmt} {Q : Flow → Shared → Prop}
theorem range_inv {r : Addr} {a₀ b₀ : Int} {t₀ u₀ v₀ : Tok} {n : Nat} {m₀ : Str → Option Value} {news : List (Addr × Obj)} (st : List Str) (J : Nat → List (Addr × Obj) → Prop)
    (hh : A.handled = none) (hr : IsRange s.heap r a₀ b₀ 1 t₀ u₀ v₀) (hsmall : Builtin.Range.small a₀ b₀ 1 = true) (hsz : Builtin.Range.rangeSize a₀ b₀ 1 = (n : Int)) (F : Fr h₀ env.locals s.heap m₀) (N : News h₀ env.locals s.heap news) (nx₀ : List (Addr × Obj)) (hn : ∀ p ∈ nx₀, p ∈ news) (hj : J 0 nx₀)
    (turn : ∀ (i : Nat) (k : Int) (t : Tok) (u : Str → Option Value) (nx : List (Addr × Obj)) (h : Heap) (tk : Nat) (own : List (Addr × Obj)), i < n → k = a₀ + (i : Int) → OwnOff own (nx.map (·.1)) → J i nx → Fr h₀ env.locals h (fun y => if y = x then some (.int k t) else if st.contains y then u y else m₀ y) → News h₀ env.locals h (nx ++ own) →
      wpAny (model prog w) A (execs body env) (InvPostG h₀ env.locals (fun m' nx' => (∀ z, z ≠ x → st.contains z = false → m' z = m₀ z) ∧ J (i + 1) nx') own { s with heap := h, toks := tk } Q) E { s with heap := h, toks := tk })
    (done : ∀ (u : Str → Option Value) (nx : List (Addr × Obj)) (h : Heap) (tk : Nat), J n nx → Fr h₀ env.locals h (fun y => if y = x then u y else if st.contains y then u y else m₀ y) → News h₀ env.locals h nx → Q .next { s with heap := h, toks := tk }) :
    wpAny (model prog w) A (pyIter (.ref r)) (fun it s₂ => LoopAtV prog w A h₀ env x body Q E it s₂) E s := by
  refine wpAny_pyIter_range hr hsmall ?_
  have W : Walks prog w A s.heap.objs.size [s.heap.objs.size] [s.heap.objs.size] n (fun i v => i < n ∧ ∃ t, v = .int (a₀ + i * 1) t)
      (fun i h => IsRangeIter h s.heap.objs.size (a₀ + (i : Nat) * 1) ((n : Int) - (i : Nat)) 1) := (Walks.range hh _ a₀ 1 n).bound
  have fr : ∀ {h : Heap} {m : Str → Option Value}, (∀ z, z ≠ x → st.contains z = false → m z = m₀ z) → m = fun y => if y = x then m y else if st.contains y then m y else m₀ y := by
    intro h m hm
    funext y
    by_cases h1 : y = x
    · rw [if_pos h1]
    · rw [if_neg h1]
      cases h2 : st.contains y with
      | true => simp
      | false => simp only [Bool.false_eq_true, if_false]; exact hm y h1 h2
  refine kdr_loop (fun i m nx => (∀ z, z ≠ x → st.contains z = false → m z = m₀ z) ∧ J i nx) W (fun _ h => h) (fun _ h => h) ?_ ?_ ?_ ?_ (by show IsRangeIter _ _ _ _ _; rw [hsz]; simpa using Heap.get?_push_size _ rfl) (F.push _) (fun p hp => ⟨Heap.get?_push_of_some _ (N p (hn p hp)).1, (N p (hn p hp)).2⟩) ⟨fun _ _ _ => rfl, hj⟩ ?_ ?_
  · intro i h hi b hb
    rw [List.mem_singleton.mp hb]
    exact ⟨_, hi⟩
  · intro hm
    exact absurd F.ns.lt ((List.mem_singleton.mp hm) ▸ Nat.lt_irrefl _)
  · intro b hb
    rw [List.mem_singleton.mp hb]
    exact next_is_new F
  · intro p hp hI
    exact absurd (Heap.lt_size (N p (hn p hp)).1) ((List.mem_singleton.mp hI) ▸ Nat.lt_irrefl _)
  · rintro i v m₁ nx h tk own hi ⟨_, t, rfl⟩ hoff ⟨hm, hJ⟩ F₁ N₁
    have e1 : a₀ + (i : Int) * 1 = a₀ + (i : Int) := by omega
    rw [e1] at F₁
    refine turn i _ t m₁ nx h tk own hi rfl hoff hJ ?_ N₁
    have e2 : (fun y => if y = x then some (Value.int (a₀ + (i : Int)) t) else m₁ y) = fun y => if y = x then some (.int (a₀ + (i : Int)) t) else if st.contains y then m₁ y else m₀ y := by
      funext y
      by_cases h1 : y = x
      · rw [if_pos h1, if_pos h1]
      · rw [if_neg h1, if_neg h1]
        have := congrFun (fr (h := h) hm) y
        rwa [if_neg h1] at this
    rw [e2] at F₁
    exact F₁
  · rintro m₁ nx h tk ⟨hm, hJ⟩ F₁ N₁
    refine done m₁ nx h tk hJ ?_ N₁
    rw [fr (h := h) hm] at F₁
    exact F₁
end

theorem nextStep_len {ks : List Int} {asked : Int} {r ks' a'} (h : nextStep ks asked = (r, ks', a')) : ks'.length ≤ ks.length := by
  unfold nextStep at h
  split at h
  · obtain ⟨-, h2, -⟩ : _ ∧ _ ∧ _ := by simpa only [Prod.mk.injEq] using h
    rw [← h2, List.length_drop]; omega
  · split at h
    split at h
    · obtain ⟨-, h2, -⟩ : _ ∧ _ ∧ _ := by simpa only [Prod.mk.injEq] using h
      rw [← h2, List.length_drop]; omega
    · split at h
      · obtain ⟨-, h2, -⟩ : _ ∧ _ ∧ _ := by simpa only [Prod.mk.injEq] using h
        rw [← h2]; exact Nat.le_refl _
      · split at h
        · obtain ⟨-, h2, -⟩ : _ ∧ _ ∧ _ := by simpa only [Prod.mk.injEq] using h
          rw [← h2]; exact Nat.le_refl _
        · obtain ⟨-, h2, -⟩ : _ ∧ _ ∧ _ := by simpa only [Prod.mk.injEq] using h
          rw [← h2]; exact Nat.le_refl _

inductive Steps : List Value → List (Addr × Obj) → List (Str × List Int) → Prop
  | nil : Steps [] [] []
  | snoc {vs ts sp a k tk fb tf bs} : Steps vs ts sp → KBw.bInts fb = bs → Steps (vs ++ [.ref a]) ((a, tupObj [.str k tk, .bytes fb tf]) :: ts) (sp ++ [(k, bs)])

theorem Steps.len {vs ts sp} (h : Steps vs ts sp) : vs.length = sp.length := by
  induction h with
  | nil => rfl
  | snoc _ _ ih => simp [ih]

def runSteps : Nat → List Int → Int → List (Str × List Int) × List Int × Int
  | 0, ks, a => ([], ks, a)
  | n + 1, ks, a =>
    match nextStep ks a with
    | (none, ks', a') => ([], ks', a')
    | (some st, ks', a') => if st.1 = Str.ofString "end" then ([st], ks', a') else (st :: (runSteps n ks' a').1, (runSteps n ks' a').2)

/-- the loop of steps: what is found, what is held, what was asked, and what is left to do -/
structure StepsP (w : World) (R : List (Str × List Int) × List Int × Int) (D x dx : Addr) (rest : List (Addr × Obj)) (i : Nat) (nx : List (Addr × Obj)) : Prop where
  ex : ∃ vs ts sp held t1 t2 tb ta ks a, nx = (D, listOf vs.toArray vs.length) :: (x, instObj 101 dx) :: (dx, cutObj w t1 t2 tb ta held a) :: (ts ++ rest) ∧ Steps vs ts sp ∧ KBw.bInts held = ks ∧ ks.length ≤ 1000000 ∧ vs.length ≤ i ∧ (∀ p ∈ ts, D < p.1) ∧
    R = (sp ++ (runSteps (30 - i) ks a).1, (runSteps (30 - i) ks a).2)

abbrev RetSteps (w : World) (x dx : Addr) (R : List (Str × List Int) × List Int × Int) (rest : List (Addr × Obj)) : RetP := fun Q h₀ L m s =>
  ∀ (D : Addr) (vs : List Value) (ts : List (Addr × Obj)) (held : Array UInt8) (t1 t2 tb ta : Tok) (h' : Heap) (tk' : Nat), Steps vs ts R.1 → KBw.bInts held = R.2.1 → vs.length ≤ 30 → (∀ p ∈ ts, D < p.1) → x < D → dx < D → (∀ p ∈ rest, p.1 < D) → Fr h₀ L h' m →
    News h₀ L h' ((D, listOf vs.toArray vs.length) :: (x, instObj 101 dx) :: (dx, cutObj w t1 t2 tb ta held R.2.2) :: (ts ++ rest)) → Q (.ref D) { s with heap := h', toks := tk' }
end Mine

namespace Mine
local macro_rules | `(tactic| walk_at $s:str) => `(tactic| k_extra $s)
local macro_rules | `(tactic| k_all) => `(tactic| first | assumption | (refine' List.forall_mem_cons.mpr ⟨?a, ?b⟩; (case a => k_ne); (case b => k_all)))
local macro_rules | `(tactic| k_ne) => `(tactic| first | assumption | exact Nat.ne_of_gt (by assumption) | exact Nat.ne_of_lt (by assumption) | (refine neN ?_; (try dsimp only); omega))

theorem next_step_eq (w : World) (rest : List (Addr × Obj)) (x dx : Addr) (A : CutApart x dx rest) (held : Array UInt8) (t1 t2 tb ta : Tok) (asked : Int) (ks : List Int) (hk : KBw.bInts held = ks) (hz : ks.length ≤ 1000000) {r ks' a'} (hR : nextStep ks asked = (r, ks', a')) :
    CallsAt w 98 7 [.ref x] ((x, instObj 101 dx) :: (dx, cutObj w t1 t2 tb ta held asked) :: rest) (RetStep w x dx (r, ks', a') rest) := hR ▸ next_step_at w rest x dx A held t1 t2 tb ta asked ks hk hz

theorem StepsP_init {w R D x dx rest held t1 t2 tb ta ks a} (hk : KBw.bInts held = ks) (hz : ks.length ≤ 1000000) (hR : R = runSteps 30 ks a) :
    StepsP w R D x dx rest 0 ((D, listOf #[] 0) :: (x, instObj 101 dx) :: (dx, cutObj w t1 t2 tb ta held a) :: rest) :=
  ⟨[], [], [], held, t1, t2, tb, ta, ks, a, rfl, .nil, hk, hz, Nat.le_refl _, (fun _ h => nomatch h), hR⟩

theorem steps_apart {D x dx : Addr} {ts rest own : List (Addr × Obj)} {o1 o2 o3 o4 : Obj} (A : CutApart x dx rest) (hx : x < D) (hd : dx < D) (hr : ∀ p ∈ rest, p.1 < D) (ht : ∀ p ∈ ts, D < p.1) (ho : OwnOff own (((D, o1) :: (x, o2) :: (dx, o3) :: (ts ++ rest)).map (·.1))) :
    CutApart x dx ((D, o4) :: ((ts ++ rest) ++ own)) ∧ (∀ p ∈ (ts ++ rest) ++ own, p.1 ≠ D) := by
  have h1 : ∀ p ∈ own, p.1 ≠ D ∧ p.1 ≠ x ∧ p.1 ≠ dx := fun p hp => ⟨ho p hp D (by simp), ho p hp x (by simp), ho p hp dx (by simp)⟩
  refine ⟨⟨A.a, A.b, List.forall_mem_cons.mpr ⟨Nat.ne_of_gt hd, fun p hp => ?_⟩, List.forall_mem_cons.mpr ⟨Nat.ne_of_gt hx, fun p hp => ?_⟩⟩, fun p hp => ?_⟩
  · rcases List.mem_append.mp hp with hp | hp
    · rcases List.mem_append.mp hp with hp | hp
      · exact Nat.ne_of_gt (Nat.lt_trans hd (ht p hp))
      · exact A.c p hp
    · exact (h1 p hp).2.2
  · rcases List.mem_append.mp hp with hp | hp
    · rcases List.mem_append.mp hp with hp | hp
      · exact Nat.ne_of_gt (Nat.lt_trans hx (ht p hp))
      · exact A.d p hp
    · exact (h1 p hp).2.1
  · rcases List.mem_append.mp hp with hp | hp
    · rcases List.mem_append.mp hp with hp | hp
      · exact Nat.ne_of_gt (ht p hp)
      · exact Nat.ne_of_lt (hr p hp)
    · exact (h1 p hp).1

theorem runSteps_none {i ks a ks' a'} (hi : i < 30) (h : nextStep ks a = (none, ks', a')) : runSteps (30 - i) ks a = ([], ks', a') := by
  rw [show 30 - i = (30 - (i + 1)) + 1 by omega, runSteps, h]
theorem runSteps_end {i ks a ks' a' kind bs} (hi : i < 30) (h : nextStep ks a = (some (kind, bs), ks', a')) (hk : (kind == Str.ofString "end") = true) : runSteps (30 - i) ks a = ([(kind, bs)], ks', a') := by
  rw [show 30 - i = (30 - (i + 1)) + 1 by omega, runSteps, h]
  dsimp only
  rw [if_pos (beq_iff_eq.mp hk)]
theorem runSteps_go {i ks a ks' a' kind bs} (hi : i < 30) (h : nextStep ks a = (some (kind, bs), ks', a')) (hk : (kind == Str.ofString "end") = false) : runSteps (30 - i) ks a = ((kind, bs) :: (runSteps (30 - (i + 1)) ks' a').1, (runSteps (30 - (i + 1)) ks' a').2) := by
  rw [show 30 - i = (30 - (i + 1)) + 1 by omega, runSteps, h]
  dsimp only
  rw [if_neg (beq_eq_false_iff_ne.mp hk)]
theorem sub_e {α : Type} {a b c : α} {l own : List α} : ∀ p ∈ c :: a :: b :: l, p ∈ a :: b :: c :: (l ++ own) := fun p h => by
  simp only [List.mem_cons, List.mem_append] at h ⊢
  rcases h with h | h | h | h <;> simp [h]
theorem sub_f {α : Type} {a b c d : α} {ts rest own : List α} : ∀ p ∈ c :: a :: b :: ((d :: ts) ++ rest), p ∈ d :: a :: b :: c :: ((ts ++ rest) ++ own) := fun p h => by
  simp only [List.mem_cons, List.mem_append] at h ⊢
  rcases h with h | h | h | (h | h) | h <;> simp [h]
theorem own_in {α : Type} {a b c d : α} {l own : List α} : ∀ p ∈ own, p ∈ d :: a :: b :: c :: (l ++ own) := fun p h => by
  simp [h]
theorem off_f {D x dx a : Addr} {ts rest own : List (Addr × Obj)} {o1 o2 o3 o4 q1 q2 q3 : Obj} (ho : OwnOff own (((D, o1) :: (x, o2) :: (dx, o3) :: (ts ++ rest)).map (·.1))) (ha : ∀ p ∈ (ts ++ rest) ++ own, p.1 < a) :
    OwnOff own (((D, q1) :: (x, q2) :: (dx, q3) :: (((a, o4) :: ts) ++ rest)).map (·.1)) := by
  intro p hp b hb
  have hpa := ha p (List.mem_append.mpr (.inr hp))
  simp only [List.cons_append, List.map_cons, List.mem_cons] at hb
  rcases hb with hb | hb | hb | hb | hb
  · exact ho p hp b (by simp [hb])
  · exact ho p hp b (by simp [hb])
  · exact ho p hp b (by simp [hb])
  · exact hb ▸ Nat.ne_of_lt hpa
  · exact ho p hp b (by simp only [List.map_cons, List.mem_cons]; exact .inr (.inr (.inr hb)))

theorem steps_at (w : World) (rest : List (Addr × Obj)) (x dx : Addr) (A : CutApart x dx rest) (held o : Array UInt8) (t1 t2 tb ta t : Tok) (asked : Int) (ks os : List Int) (hk : KBw.bInts held = ks) (ho : KBw.bInts o = os) (hz : ks.length + os.length ≤ 1000000) :
    CallsAt w 133 9 [.ref x, .bytes o t] ((x, instObj 101 dx) :: (dx, cutObj w t1 t2 tb ta held asked) :: rest) (RetSteps w x dx (runSteps 30 (ks ++ os) asked) rest) := by
  have A0 := A
  obtain ⟨a1, a2, a3, a4⟩ := A
  obtain ⟨R, hR⟩ : ∃ R, R = runSteps 30 (ks ++ os) asked := ⟨_, rfl⟩
  rw [← hR]
  dsimp only [CallsAt, RetSteps, cutObj]
  k_fill
  k_with_none
  k_with "call ref" => (
    (refine' CallsAt.use ?k1 ?k2 ?k3 ?k4 ?k5 ?kK (add_at _ _ _ _ A0 _ _ _ _ _ _ _ _ _ _ hk ho hz) ?kd ?ku ?_);
    (case k1 => k_asm); (case k2 => k_asm); (case k3 => k_asm); (case k4 => k_asm); (case k5 => k_asm); (case kK => first | exact rfl | assumption); (case kd => ktr_room); (case ku => ktr_units);
    (intro held9 t91 t92 t93 t94 h9 tk9 hk9 F9 N9);
    (try dsimp only [cutObj] at *))
  k_with "call ref" => (
    (refine' CallsAt.use ?k1 ?k2 ?k3 ?k4 ?k5 ?kK (next_step_eq _ _ _ _ (by assumption) _ _ _ _ _ _ _ (by assumption) (by assumption) (by assumption)) ?kd ?ku ?_);
    (case k1 => k_asm); (case k2 => k_asm); (case k3 => k_asm); (case k4 => exact news_sub (by assumption) perm3); (case k5 => k_asm); (case kK => first | exact rfl | assumption); (case kd => ktr_room); (case ku => ktr_units);
    (refine ⟨fun hq held9 t91 t92 t93 t94 h9 tk9 hk9 F9 N9 => ?_, fun kind bs hq a9 fb held9 t95 t96 t91 t92 t93 t94 h9 tk9 hf9 hk9 F9 N9 hx9 hd9 hr9 => ?_⟩);
    (all_goals try have hDa9 := hr9 _ (.head _));
    (all_goals try have hra9 := fun p hp => hr9 p (.tail _ hp));
    (all_goals try dsimp only [cutObj, tupObj] at *))
  k_with "call builtin:list.append" => (
    (refine' append_K ?k1 ?k2 ?k3 ?_ ?z);
    (case k1 => k_asm); (case k2 => k_asm); (case k3 => k_upd); (case z => (simp only [List.size_toArray, sizeLine_eq]; omega));
    (intro hA FA NA))
  k_with "pyIter ref" => (refine Stop.of ?_)
  intros
  rename_i hret
  refine wpAny_call ?_
  k_dflt cell_enter
  k_steps
  unfold Stop
  (rename Fr _ _ _ _ => lF); (rename News _ _ _ _ => lN); (rename IsRange _ _ _ _ _ _ _ _ => rgX)
  obtain ⟨hxD, hdD, hrD⟩ := (by assumption : x < _ ∧ dx < _ ∧ AllLt _ rest)
  replace hrD := allLt_all hrD
  with_unfolding_all refine' range_inv [Str.ofString "step"] (StepsP w R _ x dx rest) (n := 30) (by rfl) (by exact rgX) (by decide) (by rfl) lF lN _ (fun _ h => h) (StepsP_init (ks := ks ++ os) (by assumption) (by simpa using hz) hR) ?_ ?_
  · clear lF lN rgX hR
    intro i k t9 u nx h9 tk9 own hi hk9 hoff hJ lF lN
    obtain ⟨vs, ts, sp, held8, t81, t82, t83, t84, ks8, as8, rfl, hS, hk8, hz8, hlen, hts, hR⟩ := hJ.ex
    obtain ⟨hA9, hD9⟩ := steps_apart A0 hxD hdD hrD hts hoff
    rcases hns : nextStep ks8 as8 with ⟨r8, ks7, as7⟩
    simp only [List.cons_append] at lN
    dsimp only [cutObj] at lN
    k_steps
    · rename_i kF kN _ _
      have hq' : r8 = none := hq
      subst hq'
      rw [runSteps_none hi hns, List.append_nil] at hR
      subst hR
      exact hret _ vs ts _ _ _ _ _ _ _ hS hk9 (by omega) hts hxD hdD hrD kF (news_sub kN sub_e)
    · rename_i kF kN _ _
      have hq' : r8 = some (kind, bs) := hq
      subst hq'
      rw [runSteps_end hi hns (by assumption)] at hR
      subst hR
      rw [List.push_toArray] at kN
      exact hret _ (vs ++ [.ref a9]) (_ :: ts) _ _ _ _ _ _ _ (.snoc hS hf9) hk9 (by simp; omega) (List.forall_mem_cons.mpr ⟨hDa9, hts⟩) hxD hdD hrD kF (by rw [List.length_append]; exact news_sub kN sub_f)
    · skip
      have hq' : r8 = some (kind, bs) := hq
      subst hq'
      rw [runSteps_go hi hns (by assumption)] at hR
      rw [List.push_toArray] at NA
      refine InvEndG.intro FA NA ⟨fun z h1 h2 => ?_, ⟨vs ++ [.ref a9], (a9, tupObj [.str kind t95, .bytes fb t96]) :: ts, sp ++ [(kind, bs)], held9, t91, t92, t93, t94, ks7, as7, rfl, .snoc hS hf9, hk9, Nat.le_trans (nextStep_len hns) hz8, ?_, List.forall_mem_cons.mpr ⟨hDa9, hts⟩, ?_⟩⟩ (off_f hoff hra9) ?_ own_in
      · simp only [List.contains_cons, List.contains_nil, Bool.or_false, beq_eq_false_iff_ne, ne_eq] at h2
        simp [h1, h2]
      · simp; omega
      · rw [hR, List.append_assoc]; rfl
      · rw [List.length_append]; exact sub_f
  · clear lF lN rgX hR
    intro u nx h9 tk9 hJ lF lN
    obtain ⟨vs, ts, sp, held8, t81, t82, t83, t84, ks8, as8, rfl, hS, hk8, hz8, hlen, hts, hR⟩ := hJ.ex
    dsimp only [cutObj] at lN
    k_steps
    rename_i kF kN _ _
    have hR' : R = (sp, ks8, as8) := by rw [hR]; simp [runSteps]
    subst hR'
    exact hret _ vs ts _ _ _ _ _ _ _ hS hk8 hlen hts hxD hdD hrD kF kN
end Mine

namespace Mine
local macro_rules | `(tactic| walk_at $s:str) => `(tactic| k_extra $s)
local macro_rules | `(tactic| k_all) => `(tactic| first | assumption | (refine' List.forall_mem_cons.mpr ⟨?a, ?b⟩; (case a => k_ne); (case b => k_all)))
local macro_rules | `(tactic| k_ne) => `(tactic| first | assumption | exact Nat.ne_of_gt (by assumption) | exact Nat.ne_of_lt (by assumption) | (refine neN ?_; (try dsimp only); omega))

structure BagOk (cs : List Value) (ns : List Int) (turn seed : Int) : Prop where
  hi : IntsAre cs ns
  len : ns.length ≤ 30
  rng : ∀ n ∈ ns, 0 ≤ n ∧ n < 10 ^ 40
  t0 : 0 ≤ turn
  s0 : 0 ≤ seed
  s1 : seed < 2147483647
abbrev bagObj (C : Addr) (turn seed : Int) (tt ts : Tok) (nB : Nat) : Obj := W.listOf #[.ref C, .int turn tt, .int seed ts] nB
abbrev RetOut (B C : Addr) (many : Int) (rest : List (Addr × Obj)) : RetP := fun Q h₀ L m s =>
  ∀ (r : Int) (t : Tok) (cs : List Value) (ns : List Int) (turn seed : Int) (tt ts : Tok) (nB nC : Nat) (h' : Heap) (tk' : Nat), 0 ≤ r → r < many → BagOk cs ns turn seed → Fr h₀ L h' m →
    News h₀ L h' ((B, bagObj C turn seed tt ts nB) :: (C, W.listOf cs.toArray nC) :: rest) → Q (.int r t) { s with heap := h', toks := tk' }

theorem fmod_lt {a b : Int} (h : 0 < b) : 0 ≤ a.fmod b ∧ a.fmod b < b := by
  rw [Int.fmod_eq_emod_of_nonneg _ (Int.le_of_lt h)]
  exact ⟨Int.emod_nonneg _ (by omega), Int.emod_lt_of_pos _ h⟩
theorem fdiv_le {a b : Int} (h : 0 < b) (h0 : 0 ≤ a) : 0 ≤ a.fdiv b ∧ a.fdiv b ≤ a := by
  rw [Int.fdiv_eq_ediv_of_nonneg _ (Int.le_of_lt h)]
  exact ⟨Int.ediv_nonneg h0 (Int.le_of_lt h), Int.ediv_le_self _ h0⟩
theorem getD_rng {ns : List Int} (hn : ∀ n ∈ ns, 0 ≤ n ∧ n < 10 ^ 40) (i : Nat) : 0 ≤ ns.getD i 0 ∧ ns.getD i 0 < 10 ^ 40 := by
  rw [List.getD_eq_getElem?_getD]
  cases h : ns[i]? with
  | none => exact ⟨Int.le_refl _, by decide⟩
  | some n => exact hn n (List.mem_of_getElem? h)
theorem set_rng {ns : List Int} (hn : ∀ n ∈ ns, 0 ≤ n ∧ n < 10 ^ 40) (i : Nat) {many : Int} (hm : 0 < many) : ∀ n ∈ ns.set i ((ns.getD i 0).fdiv many), 0 ≤ n ∧ n < 10 ^ 40 := by
  intro n h
  rcases List.mem_or_eq_of_mem_set h with h | h
  · exact hn n h
  · have := getD_rng hn i
    have := fdiv_le hm this.1
    omega

theorem out_at (w : World) (rest : List (Addr × Obj)) (B C : Addr) (cs : List Value) (ns : List Int) (turn seed many : Int) (tt ts tm : Tok) (nB nC : Nat) (b1 : B ≠ C) (b2 : C ≠ B) (b3 : ∀ p ∈ rest, p.1 ≠ B) (b4 : ∀ p ∈ rest, p.1 ≠ C) (hB : BagOk cs ns turn seed) (hm : 0 < many) (hm2 : many ≤ 1000000) :
    CallsAt w 119 12 [.ref B, .int many tm] ((B, W.listOf #[.ref C, .int turn tt, .int seed ts] nB) :: (C, W.listOf cs.toArray nC) :: rest) (RetOut B C many rest) := by
  obtain ⟨hi, hl, hn, ht, hs, hs2⟩ := hB
  dsimp only [CallsAt, RetOut]
  k_fill
  k_with_none
  k_with "compareOp NotEq ref ref" => (refine Stop.of ?_)
  intros
  rename_i hret
  refine wpAny_call ?_
  k_dflt cell_enter
  k_steps
  unfold Stop
  rename News _ _ _ _ => lN
  with_unfolding_all refine ke_ne_ints (ns := ns) (ms := []) (xs := cs) (ys := []) ⟨_, (lN (C, _) (by k_mem)).1, rfl, _, rfl⟩ ⟨_, (lN _ (.head _)).1, rfl, _, rfl⟩ hi .nil (by ktr_units) ?_
  k_steps
  · rename_i kF kN _ _
    exact hret _ _ cs ns _ _ _ _ _ _ _ _ (fmod_lt hm).1 (fmod_lt hm).2 ⟨hi, hl, hn, by omega, (fmod_lt (by omega)).1, (fmod_lt (by omega)).2⟩ kF (news_sub kN in_tail)
  · rename_i kF kN _ _
    exact hret _ _ _ _ _ _ _ _ _ _ _ _ (fmod_lt hm).1 (fmod_lt hm).2 ⟨by assumption, by rw [List.length_set]; exact hl, set_rng hn _ hm, by omega, hs, hs2⟩ kF (news_sub kN in_tail)
  · exact absurd (List.eq_nil_of_length_eq_zero (by omega : ns.length = 0)) (of_decide_eq_false (by assumption))
  · rename_i kF kN _ _
    exact hret _ _ _ _ _ _ _ _ _ _ _ _ (fmod_lt hm).1 (fmod_lt hm).2 ⟨by assumption, by rw [List.length_set]; exact hl, set_rng hn _ hm, by omega, hs, hs2⟩ kF (news_sub kN in_tail)
  · rename_i kF kN _ _
    exact hret _ _ cs ns _ _ _ _ _ _ _ _ (fmod_lt hm).1 (fmod_lt hm).2 ⟨hi, hl, hn, by omega, (fmod_lt (by omega)).1, (fmod_lt (by omega)).2⟩ kF (news_sub kN in_tail)
end Mine

namespace Mine

section
variable {prog : Program} {w : World} {A : Around} {E : Value → Shared → Prop} {s : Shared} {env : Env} {h₀ : Heap} {x : Str} {body : List Stmt} {Q : Flow → Shared → Prop}
theorem range_invM {r : Addr} {a₀ b₀ : Int} {t₀ u₀ v₀ : Tok} {n : Nat} {m₀ : Str → Option Value} {news : List (Addr × Obj)} (J : Nat → (Str → Option Value) → List (Addr × Obj) → Prop)
    (hh : A.handled = none) (hr : IsRange s.heap r a₀ b₀ 1 t₀ u₀ v₀) (hsmall : Builtin.Range.small a₀ b₀ 1 = true) (hsz : Builtin.Range.rangeSize a₀ b₀ 1 = (n : Int)) (F : Fr h₀ env.locals s.heap m₀) (N : News h₀ env.locals s.heap news) (nx₀ : List (Addr × Obj)) (hn : ∀ p ∈ nx₀, p ∈ news) (hj : J 0 m₀ nx₀)
    (turn : ∀ (i : Nat) (k : Int) (t : Tok) (u : Str → Option Value) (nx : List (Addr × Obj)) (h : Heap) (tk : Nat) (own : List (Addr × Obj)), i < n → k = a₀ + (i : Int) → OwnOff own (nx.map (·.1)) → J i u nx → Fr h₀ env.locals h (fun y => if y = x then some (.int k t) else u y) → News h₀ env.locals h (nx ++ own) →
      wpAny (model prog w) A (execs body env) (InvPostG h₀ env.locals (J (i + 1)) own { s with heap := h, toks := tk } Q) E { s with heap := h, toks := tk })
    (done : ∀ (u : Str → Option Value) (nx : List (Addr × Obj)) (h : Heap) (tk : Nat), J n u nx → Fr h₀ env.locals h u → News h₀ env.locals h nx → Q .next { s with heap := h, toks := tk }) :
    wpAny (model prog w) A (pyIter (.ref r)) (fun it s₂ => LoopAtV prog w A h₀ env x body Q E it s₂) E s := by
  refine wpAny_pyIter_range hr hsmall ?_
  have W : Walks prog w A s.heap.objs.size [s.heap.objs.size] [s.heap.objs.size] n (fun i v => i < n ∧ ∃ t, v = .int (a₀ + i * 1) t)
      (fun i h => IsRangeIter h s.heap.objs.size (a₀ + (i : Nat) * 1) ((n : Int) - (i : Nat)) 1) := (Walks.range hh _ a₀ 1 n).bound
  refine kdr_loop J W (fun _ h => h) (fun _ h => h) ?_ ?_ ?_ ?_ (by show IsRangeIter _ _ _ _ _; rw [hsz]; simpa using Heap.get?_push_size _ rfl) (F.push _) (fun p hp => ⟨Heap.get?_push_of_some _ (N p (hn p hp)).1, (N p (hn p hp)).2⟩) hj ?_ done
  · intro i h hi b hb
    rw [List.mem_singleton.mp hb]
    exact ⟨_, hi⟩
  · intro hm
    exact absurd F.ns.lt ((List.mem_singleton.mp hm) ▸ Nat.lt_irrefl _)
  · intro b hb
    rw [List.mem_singleton.mp hb]
    exact next_is_new F
  · intro p hp hI
    exact absurd (Heap.lt_size (N p (hn p hp)).1) ((List.mem_singleton.mp hI) ▸ Nat.lt_irrefl _)
  · rintro i v m₁ nx h tk own hi ⟨_, t, rfl⟩ hoff hJ F₁ N₁
    have e1 : a₀ + (i : Int) * 1 = a₀ + (i : Int) := by omega
    rw [e1] at F₁
    exact turn i _ t m₁ nx h tk own hi rfl hoff hJ F₁ N₁
end

theorem fr_eq {m' m₀ : Str → Option Value} {n : Str} {v : Value} {st : List Str} (h1 : m' n = some v) (h2 : ∀ z, z ≠ n → st.contains z = false → m' z = m₀ z) : m' = fun y => if y = n then some v else if st.contains y then m' y else m₀ y := by
  funext y
  by_cases h : y = n
  · subst h; rw [if_pos rfl]; exact h1
  · rw [if_neg h]
    cases hc : st.contains y with
    | true => simp
    | false => simp only [Bool.false_eq_true, if_false]; exact h2 y h hc
theorem fr_eq2 {m' m₀ : Str → Option Value} {n k : Str} {v q : Value} {st : List Str} (h1 : m' n = some v) (h1' : m' k = some q) (h2 : ∀ z, z ≠ n → z ≠ k → st.contains z = false → m' z = m₀ z) : m' = fun y => if y = n then some v else if y = k then some q else if st.contains y then m' y else m₀ y := by
  funext y
  by_cases h : y = n
  · subst h; rw [if_pos rfl]; exact h1
  · rw [if_neg h]
    by_cases h' : y = k
    · subst h'; rw [if_pos rfl]; exact h1'
    · rw [if_neg h']
      cases hc : st.contains y with
      | true => simp
      | false => simp only [Bool.false_eq_true, if_false]; exact h2 y h h' hc

/-- the law's own words and figures -/
def words : List (List Int) := [[78, 79, 79, 80], [88, 32, 34, 123, 57, 57, 57, 57, 57, 57, 57, 43, 125, 34], [65, 32, 123, 51, 43, 125, 13, 10, 13, 10, 98], [65, 32, 123, 50, 125, 13, 10, 125, 13], [66, 32, 123, 48, 125, 13, 10]]
def figs : List (List Int) := [[49, 48, 48, 48, 48, 48, 49], [49, 48, 48, 48, 48, 48, 50], [57, 57, 57, 57, 57, 57, 57, 57, 57, 57], [48, 49, 48, 48, 48, 48, 48, 49], [50, 48, 48, 48, 48, 48, 48]]
def wordAt (i : Int) : List Int := words.getD i.toNat []
def figAt (i : Int) : List Int := figs.getD i.toNat []
def tailAt (i : Int) : List Int := [[], [97, 98], [13, 10], [116, 56, 32, 78, 79, 79, 80, 13, 10]].getD i.toNat []
def cmdA (t i : Int) : List Int := [116] ++ [48 + t] ++ [32] ++ wordAt i ++ [32, 120, 13, 10]
def cmdB (t i j : Int) : List Int := [116] ++ [48 + t] ++ [32] ++ wordAt i ++ ([32, 123] ++ figAt j ++ [125, 13, 10])
def cmdE (i j : Int) : List Int := [116, 57, 32] ++ wordAt i ++ [32, 123] ++ figAt j ++ [43, 125, 13, 10]

def IsCmd (st : Str × List Int) : Prop := ∃ t i, 0 ≤ t ∧ t < 4 ∧ 0 ≤ i ∧ i < 5 ∧ (st = (Str.ofString "command", cmdA t i) ∨ ∃ j, 0 ≤ j ∧ j < 5 ∧ st = (Str.ofString "refuse", cmdB t i j))
def IsEnd (st : Str × List Int) : Prop := ∃ i j, 0 ≤ i ∧ i < 5 ∧ 0 ≤ j ∧ j < 5 ∧ st = (Str.ofString "end", cmdE i j)
def cat (sp : List (Str × List Int)) : List Int := (sp.map (·.2)).flatten
theorem perm3t {α : Type} {a b c d : α} {l : List α} : ∀ p ∈ a :: b :: c :: l, p ∈ d :: c :: a :: b :: l := fun p h => .tail _ (perm3 p h)
theorem rot3 {h₀ h : Heap} {L : Addr} {a b c : Addr × Obj} {l : List (Addr × Obj)} (N : News h₀ L h (c :: a :: b :: l)) : News h₀ L h (a :: b :: c :: l) := news_sub N perm3
theorem rot3t {h₀ h : Heap} {L : Addr} {a b c d : Addr × Obj} {l : List (Addr × Obj)} (N : News h₀ L h (d :: c :: a :: b :: l)) : News h₀ L h (a :: b :: c :: l) := news_sub N perm3t
theorem bagFirst {h₀ h : Heap} {L B : Addr} {o : Obj} {l : List (Addr × Obj)} (N : News h₀ L h ((B, o) :: l)) : News h₀ L h ((B, o) :: l) := N
/-- bounds that the walk shall not split by -/
def Within (r many : Int) : Prop := 0 ≤ r ∧ r < many
theorem cat_snoc (sp : List (Str × List Int)) (st : Str × List Int) : cat (sp ++ [st]) = cat sp ++ st.2 := by simp [cat]

structure StreamP (D B C : Addr) (rest : List (Addr × Obj)) (m₀ : Str → Option Value) (i : Nat) (m : Str → Option Value) (nx : List (Addr × Obj)) : Prop where
  ex : ∃ (vs : List Value) (ts : List (Addr × Obj)) (sp : List (Str × List Int)) (data : Array UInt8) (dt : Tok) (cs : List Value) (ns : List Int) (turn seed : Int) (tt ts' : Tok) (nB nC : Nat) (u : Str → Option Value), nx = (D, W.listOf vs.toArray vs.length) :: (B, bagObj C turn seed tt ts' nB) :: (C, W.listOf cs.toArray nC) :: (ts ++ rest) ∧
    m = (fun y => if y = Str.ofString "data" then some (Value.bytes data dt) else if [Str.ofString "turn", Str.ofString "way", Str.ofString "octets"].contains y then u y else m₀ y) ∧
    Steps vs ts sp ∧ KBw.bInts data = cat sp ∧ BagOk cs ns turn seed ∧ vs.length ≤ i ∧ data.size ≤ 60 * i ∧ (∀ st ∈ sp, IsCmd st) ∧ (∀ p ∈ ts, D < p.1)
end Mine

namespace Mine
local macro_rules | `(tactic| walk_at $s:str) => `(tactic| k_extra $s)
theorem bInts_append (b c : Array UInt8) : KBw.bInts (b ++ c) = KBw.bInts b ++ KBw.bInts c := by simp [KBw.bInts]
theorem add_S {prog : Program} {w : World} {A : Around} {E : Value → Shared → Prop} {s : Shared} {b c : Array UInt8} {t u : Tok} {Q : Value → Shared → Prop} {kb kc : List Int} (hb : KBw.bInts b = kb) (hc : KBw.bInts c = kc) (hsz : b.size + c.size ≤ 16777216)
    (h : ∀ (d : Array UInt8) (t' : Tok) (k : Nat), KBw.bInts d = kb ++ kc → d.size = b.size + c.size → Q (.bytes d t') { s with toks := k }) : wpAny (model prog w) A (binaryOp .Add (.bytes b t) (.bytes c u)) Q E s :=
  KBy.add_bytes hsz fun t' k => h _ t' k (by rw [bInts_append, hb, hc]) Array.size_append
theorem head_ints {k : Int} (h0 : 0 ≤ k) (h1 : k < 4) : KBw.bInts #[116, (48 + k).toNat.toUInt8, 32] = [116] ++ [48 + k] ++ [32] := by
  have hc : k = 0 ∨ k = 1 ∨ k = 2 ∨ k = 3 := by omega
  rcases hc with rfl | rfl | rfl | rfl <;> rfl

theorem words_sub {w : World} {A : Around} {s : Shared} {h₀ : Heap} {L : Addr} {m : Str → Option Value} {news : List (Addr × Obj)} {f : Expr} {args : List Expr} {p1 p2 : Pos} {n : Str} {r : Int} {t : Tok} {Q : Value → Shared → Prop} {E : Value → Shared → Prop}
    (X : (hd.heap_39 w.params).In h₀) (F : Fr h₀ L s.heap m) (N : News h₀ L s.heap news) (hW : Within r 5) (h : ∀ b t, KBw.bInts b = wordAt r → b.size ≤ 20 → Q (.bytes b t) s) :
    wpAny (model PySem.Challenge.rw_sa0548_01.row.prog w) A (subscriptTail (.Name n p1) (.Call f args [] p2) (.ref 106) (.int r t)) Q E s := by
  revert X F N
  k_fill
  k_with_none
  intro X F N
  obtain ⟨hW1, hW2⟩ := hW
  have hc : r = 0 ∨ r = 1 ∨ r = 2 ∨ r = 3 ∨ r = 4 := by omega
  rcases hc with rfl | rfl | rfl | rfl | rfl
  all_goals
    k_dflt (refine' topTup_K ?F ?X ?l ?a ?b ?c ?d ?_)
    case F => exact F
    case X => exact X
    case l => k_is
    case a => decide
    case b => decide
    case c => rfl
    case d => rfl
    exact h _ _ rfl (by decide)
theorem figs_sub {w : World} {A : Around} {s : Shared} {h₀ : Heap} {L : Addr} {m : Str → Option Value} {news : List (Addr × Obj)} {f : Expr} {args : List Expr} {p1 p2 : Pos} {n : Str} {r : Int} {t : Tok} {Q : Value → Shared → Prop} {E : Value → Shared → Prop}
    (X : (hd.heap_39 w.params).In h₀) (F : Fr h₀ L s.heap m) (N : News h₀ L s.heap news) (hW : Within r 5) (h : ∀ b t, KBw.bInts b = figAt r → b.size ≤ 20 → Q (.bytes b t) s) :
    wpAny (model PySem.Challenge.rw_sa0548_01.row.prog w) A (subscriptTail (.Name n p1) (.Call f args [] p2) (.ref 107) (.int r t)) Q E s := by
  revert X F N
  k_fill
  k_with_none
  intro X F N
  obtain ⟨hW1, hW2⟩ := hW
  have hc : r = 0 ∨ r = 1 ∨ r = 2 ∨ r = 3 ∨ r = 4 := by omega
  rcases hc with rfl | rfl | rfl | rfl | rfl
  all_goals
    k_dflt (refine' topTup_K ?F ?X ?l ?a ?b ?c ?d ?_)
    case F => exact F
    case X => exact X
    case l => k_is
    case a => decide
    case b => decide
    case c => rfl
    case d => rfl
    exact h _ _ rfl (by decide)
end Mine

namespace Mine
local macro_rules | `(tactic| walk_at $s:str) => `(tactic| k_extra $s)
local macro_rules | `(tactic| k_all) => `(tactic| first | assumption | (refine' List.forall_mem_cons.mpr ⟨?a, ?b⟩; (case a => k_ne); (case b => k_all)))
local macro_rules | `(tactic| k_ne) => `(tactic| first | assumption | exact Nat.ne_of_gt (by assumption) | exact Nat.ne_of_lt (by assumption) | (refine neN ?_; (try dsimp only); omega))

theorem perm3r {α : Type} {a b c : α} {l : List α} : ∀ p ∈ c :: a :: b :: l, p ∈ a :: b :: c :: l := fun p h => by
  simp only [List.mem_cons] at h ⊢
  rcases h with h | h | h | h <;> simp [h]
theorem StreamP_init {D B C rest m₀ dt cs ns turn seed tt ts' nB nC} (h : m₀ (Str.ofString "data") = some (Value.bytes #[] dt)) (hB : BagOk cs ns turn seed) :
    StreamP D B C rest m₀ 0 m₀ ((D, W.listOf #[] 0) :: (B, bagObj C turn seed tt ts' nB) :: (C, W.listOf cs.toArray nC) :: rest) :=
  ⟨[], [], [], #[], dt, cs, ns, turn, seed, tt, ts', nB, nC, m₀, rfl, fr_eq h (fun _ _ _ => rfl), .nil, rfl, hB, Nat.le_refl _, Nat.le_refl _, (fun _ h => nomatch h), (fun _ h => nomatch h)⟩
theorem stream_apart {D B C : Addr} {ts rest own : List (Addr × Obj)} {o1 o2 o3 : Obj} (b3 : ∀ p ∈ rest, p.1 ≠ B) (b4 : ∀ p ∈ rest, p.1 ≠ C) (hB : B < D) (hC : C < D) (hr : ∀ p ∈ rest, p.1 < D) (ht : ∀ p ∈ ts, D < p.1) (ho : OwnOff own (((D, o1) :: (B, o2) :: (C, o3) :: (ts ++ rest)).map (·.1))) :
    (∀ p ∈ (ts ++ rest) ++ own, p.1 ≠ B) ∧ (∀ p ∈ (ts ++ rest) ++ own, p.1 ≠ C) ∧ (∀ p ∈ (ts ++ rest) ++ own, p.1 ≠ D) := by
  have h1 : ∀ p ∈ own, p.1 ≠ D ∧ p.1 ≠ B ∧ p.1 ≠ C := fun p hp => ⟨ho p hp D (by simp), ho p hp B (by simp), ho p hp C (by simp)⟩
  refine ⟨fun p hp => ?_, fun p hp => ?_, fun p hp => ?_⟩
  · rcases List.mem_append.mp hp with hp | hp
    · rcases List.mem_append.mp hp with hp | hp
      · exact Nat.ne_of_gt (Nat.lt_trans hB (ht p hp))
      · exact b3 p hp
    · exact (h1 p hp).2.1
  · rcases List.mem_append.mp hp with hp | hp
    · rcases List.mem_append.mp hp with hp | hp
      · exact Nat.ne_of_gt (Nat.lt_trans hC (ht p hp))
      · exact b4 p hp
    · exact (h1 p hp).2.2
  · rcases List.mem_append.mp hp with hp | hp
    · rcases List.mem_append.mp hp with hp | hp
      · exact Nat.ne_of_gt (ht p hp)
      · exact Nat.ne_of_lt (hr p hp)
    · exact (h1 p hp).1

theorem isCmd_a {k r : Int} (h0 : 0 ≤ k) (h1 : k < 4) (h : Within r 5) : IsCmd (Str.ofString "command", [116] ++ [48 + k] ++ [32] ++ wordAt r ++ KBw.bInts #[32, 120, 13, 10]) :=
  ⟨k, r, h0, h1, h.1, h.2, .inl rfl⟩
theorem isCmd_b {k r q : Int} (h0 : 0 ≤ k) (h1 : k < 4) (h : Within r 5) (h' : Within q 5) : IsCmd (Str.ofString "refuse", [116] ++ [48 + k] ++ [32] ++ wordAt r ++ KBw.bInts #[32, 123] ++ figAt q ++ KBw.bInts #[125, 13, 10]) :=
  ⟨k, r, h0, h1, h.1, h.2, .inr ⟨q, h'.1, h'.2, by
    show _ = (Str.ofString "refuse", [116] ++ [48 + k] ++ [32] ++ wordAt r ++ ([32, 123] ++ figAt q ++ [125, 13, 10]))
    rw [show KBw.bInts #[32, 123] = [32, 123] from rfl, show KBw.bInts #[125, 13, 10] = [125, 13, 10] from rfl]
    simp only [List.append_assoc]⟩⟩

theorem sub_x {α : Type} {a b c d x : α} {l : List α} : ∀ p ∈ d :: a :: b :: c :: l, p ∈ d :: a :: b :: x :: c :: l := fun p h => by
  simp only [List.mem_cons] at h ⊢
  rcases h with h | h | h | h | h <;> simp [h]

theorem stream_end {g : Heap} {L : Addr} {hA : Heap} {s : Shared} {tk : Nat} {D B C D' X : Addr} {kind : Str} {tk' to : Tok} {o d : Array UInt8} {td : Tok} {os : List Int} {cs : List Value} {ns : List Int} {turn seed : Int} {tt ts' : Tok} {nB nC i : Nat} {vs : List Value} {sts rest own : List (Addr × Obj)} {sp : List (Str × List Int)} {m' m₀ : Str → Option Value} {q1 q2 q3 q4 : Obj}
    (NA : News g L hA ((D', tupObj [.str kind tk', .bytes o to]) :: (B, bagObj C turn seed tt ts' nB) :: (C, W.listOf cs.toArray nC) :: (X, q4) :: (D, W.listOf (vs.toArray.push (.ref D')) (vs.length + 1)) :: ((sts ++ rest) ++ own))) (FA : Fr g L hA m')
    (hS : Steps vs sts sp) (ho : KBw.bInts o = os) (hcmd : ∀ st ∈ sp, IsCmd st) (hst : IsCmd (kind, os)) (hdat : m' (Str.ofString "data") = some (.bytes d td)) (hd : KBw.bInts d = cat sp ++ os) (hz : d.size ≤ 60 * (i + 1)) (hB : BagOk cs ns turn seed) (hlen : vs.length ≤ i)
    (hsame : ∀ z, z ≠ Str.ofString "data" → [Str.ofString "turn", Str.ofString "way", Str.ofString "octets"].contains z = false → m' z = m₀ z) (hts : ∀ p ∈ sts, D < p.1) (hDD : D < D')
    (hlt : ∀ p ∈ (sts ++ rest) ++ own, p.1 < D') (ho' : OwnOff own (((D, q1) :: (B, q2) :: (C, q3) :: (sts ++ rest)).map (·.1))) :
    InvEndG g L (StreamP D B C rest m₀ (i + 1)) own s { s with heap := hA, toks := tk } := by
  rw [List.push_toArray] at NA
  refine InvEndG.intro FA (news_sub NA sub_x) ⟨vs ++ [.ref D'], (D', tupObj [.str kind tk', .bytes o to]) :: sts, sp ++ [(kind, os)], d, td, cs, ns, turn, seed, tt, ts', nB, nC, m', rfl, fr_eq hdat hsame, .snoc hS ho, ?_, hB, ?_, hz, ?_, List.forall_mem_cons.mpr ⟨hDD, hts⟩⟩ (off_f ho' hlt) ?_ own_in
  · rw [hd, cat_snoc]
  · simp; omega
  · intro st h
    rcases List.mem_append.mp h with h | h
    · exact hcmd st h
    · rw [List.mem_singleton.mp h]; exact hst
  · rw [List.length_append]; exact sub_f

def Script (sp : List (Str × List Int)) (tail : List Int) : Prop :=
  ∃ cs : List (Str × List Int), cs.length ≤ 4 ∧ (∀ st ∈ cs, IsCmd st) ∧ ((sp = cs ∧ tail = []) ∨ ∃ e q, IsEnd e ∧ Within q 4 ∧ sp = cs ++ [e] ∧ tail = tailAt q)
abbrev RetStreamed (B C : Addr) (rest : List (Addr × Obj)) : RetP := fun Q h₀ L m s =>
  ∀ (T D : Addr) (vs : List Value) (ts : List (Addr × Obj)) (sp : List (Str × List Int)) (data : Array UInt8) (td : Tok) (tail : List Int) (cs : List Value) (ns : List Int) (turn seed : Int) (tt ts' : Tok) (nB nC : Nat) (h' : Heap) (tk' : Nat), Steps vs ts sp → KBw.bInts data = cat sp ++ tail → Script sp tail → BagOk cs ns turn seed →
    B < D → C < D → (∀ p ∈ rest, p.1 < D) → (∀ p ∈ ts, D < p.1) → (∀ p ∈ ts, p.1 < T) → D < T → Fr h₀ L h' m →
    News h₀ L h' ((T, tupObj [.bytes data td, .ref D]) :: (D, W.listOf vs.toArray vs.length) :: (B, bagObj C turn seed tt ts' nB) :: (C, W.listOf cs.toArray nC) :: (ts ++ rest)) → Q (.ref T) { s with heap := h', toks := tk' }
theorem fin0 {B C D T : Addr} {rest sts : List (Addr × Obj)} {Q : Value → Shared → Prop} {h₀ h' : Heap} {L : Addr} {m : Str → Option Value} {s : Shared} {vs : List Value} {sp : List (Str × List Int)} {data : Array UInt8} {td tt ts' : Tok} {cs : List Value} {ns : List Int} {turn seed : Int} {nB nC tk' : Nat}
    (hret : RetStreamed B C rest Q h₀ L m s) (kF : Fr h₀ L h' m) (kN : News h₀ L h' ((T, tupObj [.bytes data td, .ref D]) :: (B, bagObj C turn seed tt ts' nB) :: (C, W.listOf cs.toArray nC) :: (D, W.listOf vs.toArray vs.length) :: (sts ++ rest)))
    (hS : Steps vs sts sp) (hd : KBw.bInts data = cat sp) (hcmd : ∀ st ∈ sp, IsCmd st) (hlen : vs.length ≤ 4) (hB : BagOk cs ns turn seed) (hBD : B < D) (hCD : C < D) (hr : ∀ p ∈ rest, p.1 < D) (hts : ∀ p ∈ sts, D < p.1) (hDT : D < T) (hlt : AllLt T (sts ++ rest)) :
    Q (.ref T) { s with heap := h', toks := tk' } := by
  refine hret T D vs sts sp data td [] cs ns turn seed tt ts' nB nC h' tk' hS (by rw [hd, List.append_nil]) ⟨sp, hS.len ▸ hlen, hcmd, .inl ⟨rfl, rfl⟩⟩ hB hBD hCD hr hts (fun p hp => allLt_all hlt p (List.mem_append.mpr (.inl hp))) hDT kF (news_sub kN fun p h => ?_)
  simp only [List.mem_cons] at h ⊢
  rcases h with h | h | h | h | h <;> simp [h]
theorem fin1 {B C D T E X : Addr} {q1 : Obj} {rest sts : List (Addr × Obj)} {Q : Value → Shared → Prop} {h₀ h' : Heap} {L : Addr} {m : Str → Option Value} {s : Shared} {vs : List Value} {sp : List (Str × List Int)} {data o : Array UInt8} {td tt ts' te to : Tok} {cs : List Value} {ns : List Int} {turn seed q i j : Int} {nB nC tk' : Nat}
    (hret : RetStreamed B C rest Q h₀ L m s) (kF : Fr h₀ L h' m) (kN : News h₀ L h' ((T, tupObj [.bytes data td, .ref D]) :: (E, tupObj [.str (Str.ofString "end") te, .bytes o to]) :: (B, bagObj C turn seed tt ts' nB) :: (C, W.listOf cs.toArray nC) :: (X, q1) :: (D, W.listOf (vs.toArray.push (.ref E)) (vs.length + 1)) :: (sts ++ rest)))
    (hS : Steps vs sts sp) (ho : KBw.bInts o = KBw.bInts #[116, 57, 32] ++ wordAt i ++ KBw.bInts #[32, 123] ++ figAt j ++ KBw.bInts #[43, 125, 13, 10]) (hi : Within i 5) (hj : Within j 5) (hq : Within q 4) (hd : KBw.bInts data = cat sp ++ (KBw.bInts #[116, 57, 32] ++ wordAt i ++ KBw.bInts #[32, 123] ++ figAt j ++ KBw.bInts #[43, 125, 13, 10]) ++ tailAt q) (hcmd : ∀ st ∈ sp, IsCmd st) (hlen : vs.length ≤ 4) (hB : BagOk cs ns turn seed) (hBD : B < D) (hCD : C < D) (hr : ∀ p ∈ rest, p.1 < D) (hts : ∀ p ∈ sts, D < p.1) (hDT : D < T) (hDE : D < E) (hET : E < T) (hlt : AllLt T (sts ++ rest)) :
    Q (.ref T) { s with heap := h', toks := tk' } := by
  have e : KBw.bInts #[116, 57, 32] ++ wordAt i ++ KBw.bInts #[32, 123] ++ figAt j ++ KBw.bInts #[43, 125, 13, 10] = cmdE i j := rfl
  rw [e] at ho hd
  rw [List.push_toArray] at kN
  refine hret T D (vs ++ [.ref E]) ((E, tupObj [.str (Str.ofString "end") te, .bytes o to]) :: sts) (sp ++ [(Str.ofString "end", cmdE i j)]) data td (tailAt q) cs ns turn seed tt ts' nB nC h' tk' (.snoc hS ho) (by rw [hd, cat_snoc]) ⟨sp, hS.len ▸ hlen, hcmd, .inr ⟨_, q, ⟨i, j, hi.1, hi.2, hj.1, hj.2, rfl⟩, hq, rfl, rfl⟩⟩ hB hBD hCD hr (List.forall_mem_cons.mpr ⟨hDE, hts⟩) (List.forall_mem_cons.mpr ⟨hET, fun p hp => allLt_all hlt p (List.mem_append.mpr (.inl hp))⟩) hDT kF (news_sub kN fun p h => ?_)
  simp only [List.cons_append, List.mem_cons, List.length_append, List.length_cons, List.length_nil] at h ⊢
  rcases h with h | h | h | h | h | h <;> simp [h]

theorem streamed_at (w : World) (rest : List (Addr × Obj)) (B C : Addr) (cs : List Value) (ns : List Int) (turn seed : Int) (tt ts : Tok) (nB nC : Nat) (b1 : B ≠ C) (b2 : C ≠ B) (b3 : ∀ p ∈ rest, p.1 ≠ B) (b4 : ∀ p ∈ rest, p.1 ≠ C) (hB : BagOk cs ns turn seed) :
    CallsAt w 126 14 [.ref B] ((B, bagObj C turn seed tt ts nB) :: (C, W.listOf cs.toArray nC) :: rest) (RetStreamed B C rest) := by
  dsimp only [CallsAt, bagObj]
  k_fill
  k_with_none
  k_with "call ref" => (
    (rename News _ _ _ _ => lN7);
    (first | have lN9 := bagFirst (B := B) lN7 | have lN9 := bagFirst (B := B) (rot3 lN7) | have lN9 := bagFirst (B := B) (rot3t lN7));
    (refine' CallsAt.use ?k1 ?k2 ?k3 ?k4 ?k5 ?kK (out_at _ _ _ _ _ _ _ _ _ _ _ _ _ _ b1 b2 ?p3 ?p4 ?p0 ?p5 ?p6) ?kd ?ku ?_);
    (case k4 => exact lN9);
    (clear lN9 lN7);
    (case k1 => k_asm); (case k2 => k_asm); (case k3 => k_asm); (case k5 => k_asm); (case kK => first | exact rfl | assumption); (case p3 => k_all); (case p4 => k_all); (case p0 => assumption); (case p5 => omega); (case p6 => omega); (case kd => ktr_room); (case ku => ktr_units);
    (intro r9 t9 cs9 ns9 turn9 seed9 tt9 ts9 nB9 nC9 h9 tk9 hr0 hr1 hB9 F9 N9);
    (have hW9 : Within r9 _ := ⟨hr0, hr1⟩); (clear hr0 hr1);
    (dsimp only [bagObj] at *))
  k_with "subscriptTail" => (
    (have hW4 : Within r9 4 := hW9); (obtain ⟨hw1, hw2⟩ := hW4);
    (rcases (by omega : r9 = 0 ∨ r9 = 1 ∨ r9 = 2 ∨ r9 = 3) with rfl | rfl | rfl | rfl))
  k_with "subscriptTail" => (refine words_sub (by assumption) (by assumption) (by assumption) (by assumption) (fun b6 t6 hb6 hz6 => ?_))
  k_with "subscriptTail" => (refine figs_sub (by assumption) (by assumption) (by assumption) (by assumption) (fun b7 t7 hb7 hz7 => ?_))
  k_with "binaryOp Add bytes bytes" => (
    (refine add_S (by first | assumption | exact head_ints hk0 hk4) (by first | assumption | rfl) (by first | omega | (simp only [List.size_toArray, List.length_cons, List.length_nil]; omega)) (fun d5 t5 k5 hb5 hz5 => ?_));
    (try simp only [List.size_toArray, List.length_cons, List.length_nil] at hz5))
  k_with "binaryOp Add bytes bytes" => (
    (refine add_S (b := #[116, 57, 32]) (by rfl) (by assumption) (by first | omega | (simp only [List.size_toArray, List.length_cons, List.length_nil]; omega)) (fun d5 t5 k5 hb5 hz5 => ?_));
    (try simp only [List.size_toArray, List.length_cons, List.length_nil] at hz5))
  k_with "call builtin:list.append" => (
    (refine' append_K ?k1 ?k2 ?k3 ?_ ?z);
    (case k1 => k_asm); (case k2 => k_asm); (case k3 => k_upd); (case z => (simp only [List.size_toArray, sizeLine_eq]; omega));
    (intro hA FA NA))
  k_with "pyIter ref" => (refine Stop.of ?_)
  intros
  rename_i hret
  refine wpAny_call ?_
  k_dflt cell_enter
  k_steps
  unfold Stop
  (rename Fr _ _ _ _ => lF); (rename News _ _ _ _ => lN); (rename IsRange _ _ _ _ _ _ _ _ => rgX)
  obtain ⟨hBD, hCD, hrD⟩ := (by assumption : B < _ ∧ C < _ ∧ AllLt _ rest)
  replace hrD := allLt_all hrD
  with_unfolding_all refine' range_invM (StreamP _ B C rest _) (n := (1 + r9 - 0).toNat) (by rfl) (by exact rgX) (small_one (by omega) (by omega) (by have := hW9.1; omega) (by have := hW9.2; omega)) (rangeSize_nat _ _) lF lN _ perm3r (StreamP_init (by rfl) hB9) ?_ ?_
  · clear lF lN rgX
    intro i k t u nx h9 tk9 own hi hk9 hoff hJ lF lN
    obtain ⟨vs, sts, sp, data, dt, cs8, ns8, turn8, seed8, tt8, ts8, nB8, nC8, u8, rfl, rfl, hS, hd8, hB8, hlen, hsz, hcmd, hts⟩ := hJ.ex
    obtain ⟨hA1, hA2, hA3⟩ := stream_apart b3 b4 hBD hCD hrD hts hoff
    have hW8 := hW9.2
    have hk0 : 0 ≤ k := by omega
    have hk4 : k < 4 := by omega
    have hi4 : i ≤ 4 := by omega
    simp only [List.cons_append] at lN
    dsimp only [bagObj] at lN
    k_steps
    · obtain ⟨-, -, -, hDD9, hLL9⟩ := (by assumption : B < _ ∧ C < _ ∧ _ < _ ∧ _ < _ ∧ AllLt _ (sts ++ rest ++ own))
      refine stream_end NA FA hS (by assumption) hcmd (isCmd_a hk0 hk4 (by assumption)) (by with_unfolding_all rfl) (by assumption) (by omega) (by assumption) hlen (fun z h1 h2 => ?_) hts hDD9 (allLt_all hLL9) hoff
      simp only [List.contains_cons, List.contains_nil, Bool.or_false, Bool.or_eq_false_iff, beq_eq_false_iff_ne, ne_eq] at h2
      simp [h1, h2]
    · obtain ⟨-, -, -, hDD9, hLL9⟩ := (by assumption : B < _ ∧ C < _ ∧ _ < _ ∧ _ < _ ∧ AllLt _ (sts ++ rest ++ own))
      refine stream_end NA FA hS (by assumption) hcmd (isCmd_b hk0 hk4 (by assumption) (by assumption)) (by with_unfolding_all rfl) (by assumption) (by omega) (by assumption) hlen (fun z h1 h2 => ?_) hts hDD9 (allLt_all hLL9) hoff
      simp only [List.contains_cons, List.contains_nil, Bool.or_false, Bool.or_eq_false_iff, beq_eq_false_iff_ne, ne_eq] at h2
      simp [h1, h2]
  · clear lF lN rgX
    intro u nx h9 tk9 hJ lF lN
    obtain ⟨vs, sts, sp, data, dt, cs8, ns8, turn8, seed8, tt8, ts8, nB8, nC8, u8, rfl, rfl, hS, hd8, hB8, hlen, hsz, hcmd, hts⟩ := hJ.ex
    obtain ⟨hA1, hA2, hA3⟩ := stream_apart (own := []) (o1 := tupObj []) (o2 := tupObj []) (o3 := tupObj []) b3 b4 hBD hCD hrD hts (fun _ h => nomatch h)
    rw [List.append_nil] at hA1 hA2 hA3
    have hn4 : (1 + r9 - 0).toNat ≤ 4 := by have := hW9.2; omega
    dsimp only [bagObj] at lN
    k_steps
    · rename_i kF kN _ _
      obtain ⟨hET, -, -, -, hDT, hAll⟩ := (by assumption : _ < _ ∧ B < _ ∧ C < _ ∧ _ < _ ∧ _ < _ ∧ AllLt _ (sts ++ rest))
      obtain ⟨-, -, -, hDE, -⟩ := (by assumption : B < _ ∧ C < _ ∧ _ < _ ∧ _ < _ ∧ AllLt _ (sts ++ rest))
      exact fin1 (q := 0) hret kF kN hS (by assumption) (by assumption) (by assumption) ⟨hw1, hw2⟩ (by assumption) hcmd (by omega) (by assumption) hBD hCD hrD hts hDT hDE hET hAll
    · rename_i kF kN _ _
      obtain ⟨hET, -, -, -, hDT, hAll⟩ := (by assumption : _ < _ ∧ B < _ ∧ C < _ ∧ _ < _ ∧ _ < _ ∧ AllLt _ (sts ++ rest))
      obtain ⟨-, -, -, hDE, -⟩ := (by assumption : B < _ ∧ C < _ ∧ _ < _ ∧ _ < _ ∧ AllLt _ (sts ++ rest))
      exact fin1 (q := 1) hret kF kN hS (by assumption) (by assumption) (by assumption) ⟨hw1, hw2⟩ (by assumption) hcmd (by omega) (by assumption) hBD hCD hrD hts hDT hDE hET hAll
    · rename_i kF kN _ _
      obtain ⟨hET, -, -, -, hDT, hAll⟩ := (by assumption : _ < _ ∧ B < _ ∧ C < _ ∧ _ < _ ∧ _ < _ ∧ AllLt _ (sts ++ rest))
      obtain ⟨-, -, -, hDE, -⟩ := (by assumption : B < _ ∧ C < _ ∧ _ < _ ∧ _ < _ ∧ AllLt _ (sts ++ rest))
      exact fin1 (q := 2) hret kF kN hS (by assumption) (by assumption) (by assumption) ⟨hw1, hw2⟩ (by assumption) hcmd (by omega) (by assumption) hBD hCD hrD hts hDT hDE hET hAll
    · rename_i kF kN _ _
      obtain ⟨hET, -, -, -, hDT, hAll⟩ := (by assumption : _ < _ ∧ B < _ ∧ C < _ ∧ _ < _ ∧ _ < _ ∧ AllLt _ (sts ++ rest))
      obtain ⟨-, -, -, hDE, -⟩ := (by assumption : B < _ ∧ C < _ ∧ _ < _ ∧ _ < _ ∧ AllLt _ (sts ++ rest))
      exact fin1 (q := 3) hret kF kN hS (by assumption) (by assumption) (by assumption) ⟨hw1, hw2⟩ (by assumption) hcmd (by omega) (by assumption) hBD hCD hrD hts hDT hDE hET hAll
    · rename_i kF kN _ _
      obtain ⟨-, -, hDT, hAll⟩ := (by assumption : B < _ ∧ C < _ ∧ _ < _ ∧ AllLt _ (sts ++ rest))
      exact fin0 hret kF kN hS hd8 hcmd (by omega) (by assumption) hBD hCD hrD hts hDT hAll
end Mine

namespace Mine
open PySem.SeqAt

inductive StepsIn (ts : List (Addr × Obj)) : List Value → List (Str × List Int) → Prop
  | nil : StepsIn ts [] []
  | cons {a k tk fb tf bs vs sp} : (a, tupObj [.str k tk, .bytes fb tf]) ∈ ts → KBw.bInts fb = bs → StepsIn ts vs sp → StepsIn ts (.ref a :: vs) ((k, bs) :: sp)

theorem StepsIn.mono {ts ts' vs sp} (h : StepsIn ts vs sp) (hs : ∀ p ∈ ts, p ∈ ts') : StepsIn ts' vs sp := by
  induction h with
  | nil => exact .nil
  | cons hm hb _ ih => exact .cons (hs _ hm) hb ih
theorem StepsIn.append {ts vs sp vs' sp'} (h : StepsIn ts vs sp) (h' : StepsIn ts vs' sp') : StepsIn ts (vs ++ vs') (sp ++ sp') := by
  induction h with
  | nil => exact h'
  | cons hm hb _ ih => exact .cons hm hb ih
theorem Steps.inn {vs ts sp} (h : Steps vs ts sp) : StepsIn ts vs sp := by
  induction h with
  | nil => exact .nil
  | snoc _ hb ih => exact (ih.mono fun _ h => .tail _ h).append (.cons (.head _) hb .nil)
theorem StepsIn.len {ts vs sp} (h : StepsIn ts vs sp) : vs.length = sp.length := by
  induction h with
  | nil => rfl
  | cons _ _ _ ih => simp [ih]
theorem StepsIn.get {ts vs sp} (h : StepsIn ts vs sp) : ∀ j (hj : j < vs.length), ∃ a k tk fb tf, vs[j] = .ref a ∧ (a, tupObj [.str k tk, .bytes fb tf]) ∈ ts ∧ sp[j]? = some (k, KBw.bInts fb) := by
  induction h with
  | nil => intro j hj; exact absurd hj (Nat.not_lt_zero _)
  | cons hm hb _ ih =>
    intro j hj
    cases j with
    | zero => exact ⟨_, _, _, _, _, rfl, hm, by simp [hb]⟩
    | succ j =>
      obtain ⟨a, k, tk, fb, tf, h1, h2, h3⟩ := ih j (by simpa using hj)
      exact ⟨a, k, tk, fb, tf, by simpa using h1, h2, by simpa using h3⟩

theorem bInts_inj {b c : Array UInt8} : KBw.bInts b = KBw.bInts c ↔ b.toList = c.toList := by
  constructor
  · intro h
    have : ∀ (l k : List UInt8), l.map (fun c => ((c.toNat : Nat) : Int)) = k.map (fun c => ((c.toNat : Nat) : Int)) → l = k := by
      intro l
      induction l with
      | nil => intro k h; cases k with
        | nil => rfl
        | cons _ _ => simp at h
      | cons x l ih => intro k h; cases k with
        | nil => simp at h
        | cons y k =>
          simp only [List.map_cons, List.cons.injEq] at h
          have e : x = y := UInt8.toNat_inj.mp (Int.ofNat.inj h.1)
          rw [e, ih k h.2]
    exact this _ _ h
  · intro h; unfold KBw.bInts; rw [h]

theorem eqAt_tup {A : Around} {s : Shared} {a b : Addr} {k k' : Str} {tk tf tk' tf' : Tok} {fb fb' : Array UInt8} (ha : s.heap.get? a = some (tupObj [.str k tk, .bytes fb tf])) (hb : s.heap.get? b = some (tupObj [.str k' tk', .bytes fb' tf'])) (hu : A.units < cLine) :
    EqAt A s (.ref a) (.ref b) (decide ((k, KBw.bInts fb) = (k', KBw.bInts fb'))) := by
  by_cases hab : a = b
  · subst hab
    rw [ha] at hb
    have h1 := Option.some.inj hb
    injection h1 with _ _ h1
    injection h1 with h1
    have h1 := congrArg Array.toList h1
    simp only [List.cons.injEq, Value.str.injEq, Value.bytes.injEq] at h1
    obtain ⟨⟨rfl, -⟩, ⟨rfl, -⟩, -⟩ := h1
    rw [decide_eq_true rfl]
    exact EqAt.same _
  · have hv : decide ((k, KBw.bInts fb) = (k', KBw.bInts fb')) = ((List.range (min 2 2)).all (fun j => if j = 0 then k == k' else decide (fb.toList = fb'.toList)) && (2 : Nat) == 2) := by
      rw [show (List.range (min 2 2)) = [0, 1] from rfl]
      simp only [List.all_cons, List.all_nil, if_true, Bool.and_true, beq_self_eq_true, show ¬ (1 : Nat) = 0 from by decide, if_false]
      rw [Bool.eq_iff_iff, decide_eq_true_eq, Prod.mk.injEq, bInts_inj, Bool.and_eq_true, beq_iff_eq, decide_eq_true_eq]
    rw [hv]
    refine EqAt.of_refs hab (RcAt.tuples (items := #[.str k tk, .bytes fb tf]) (items2 := #[.str k' tk', .bytes fb' tf']) ⟨_, ha, rfl, _, rfl⟩ ⟨_, hb, rfl, _, rfl⟩ hu ?_)
    intro j h1 h2
    have hj : j = 0 ∨ j = 1 := by simp at h1; omega
    rcases hj with rfl | rfl
    · exact (eqGives_str k k' tk tk').at _ _
    · exact fun prog w E Q h => eqBool_bytes h

theorem all_eq {sp sp' : List (Str × List Int)} (hl : sp.length = sp'.length) : (List.range sp.length).all (fun j => decide (sp[j]? = sp'[j]?)) = decide (sp = sp') := by
  rw [Bool.eq_iff_iff, List.all_eq_true, decide_eq_true_eq]
  constructor
  · intro h
    apply List.ext_getElem? 
    intro j
    by_cases hj : j < sp.length
    · exact of_decide_eq_true (h j (List.mem_range.mpr hj))
    · rw [List.getElem?_eq_none (by omega), List.getElem?_eq_none (by omega)]
  · rintro rfl j _
    exact decide_eq_true rfl

section
variable {prog : Program} {w : World} {A : Around} {E : Value → Shared → Prop} {s : Shared} {h₀ : Heap} {L a b : Addr} {news ts ts' : List (Addr × Obj)} {vs vs' : List Value} {sp sp' : List (Str × List Int)} {n n' : Nat} {Q : Value → Shared → Prop}
theorem steps_each (N : News h₀ L s.heap news) (S1 : StepsIn ts vs sp) (S2 : StepsIn ts' vs' sp') (i1 : ∀ p ∈ ts, p ∈ news) (i2 : ∀ p ∈ ts', p ∈ news) (hu : A.units + 16 < cLine) :
    ∀ j (h1 : j < vs.toArray.size) (h2 : j < vs'.toArray.size), EqAt A.in1 s vs.toArray[j] vs'.toArray[j] (decide (sp[j]? = sp'[j]?)) := by
  intro j h1 h2
  obtain ⟨a, k, tk, fb, tf, e1, e2, e3⟩ := S1.get j (by simpa using h1)
  obtain ⟨a', k', tk', fb', tf', f1, f2, f3⟩ := S2.get j (by simpa using h2)
  rw [e3, f3, show vs.toArray[j] = vs[j]'(by simpa using h1) from rfl, show vs'.toArray[j] = vs'[j]'(by simpa using h2) from rfl, e1, f1]
  have := eqAt_tup (A := A.in1) (N _ (i1 _ e2)).1 (N _ (i2 _ f2)).1 (by simp only [units_in1]; omega)
  rw [show (decide (some (k, KBw.bInts fb) = some (k', KBw.bInts fb'))) = decide ((k, KBw.bInts fb) = (k', KBw.bInts fb')) from decide_eq_decide.mpr ⟨fun h => Option.some.inj h, fun h => congrArg some h⟩]
  exact this
theorem steps_ne (N : News h₀ L s.heap news) (m1 : (a, W.listOf vs.toArray n) ∈ news) (m2 : (b, W.listOf vs'.toArray n') ∈ news) (S1 : StepsIn ts vs sp) (S2 : StepsIn ts' vs' sp') (i1 : ∀ p ∈ ts, p ∈ news) (i2 : ∀ p ∈ ts', p ∈ news) (hu : A.units + 16 < cLine)
    (h : Q (.bool (!decide (sp = sp'))) s) : wpAny (model prog w) A (compareOp .NotEq (.ref a) (.ref b)) Q E s := by
  by_cases hl : sp.length = sp'.length
  · refine RcNeAt.lists (e := fun j => decide (sp[j]? = sp'[j]?)) ⟨_, (N _ m1).1, rfl, _, rfl⟩ ⟨_, (N _ m2).1, rfl, _, rfl⟩ (by simpa [S1.len, S2.len] using hl) (by omega) (steps_each N S1 S2 i1 i2 hu) prog w E Q ?_
    rw [show vs.toArray.size = sp.length by simpa using S1.len, all_eq hl]
    exact h
  · refine RcNeAt.lists_lengths ⟨_, (N _ m1).1, rfl, _, rfl⟩ ⟨_, (N _ m2).1, rfl, _, rfl⟩ (by simpa [S1.len, S2.len] using hl) (by omega) prog w E Q ?_
    rw [decide_eq_false (fun e => hl (congrArg _ e))] at h
    exact h
theorem steps_eq (N : News h₀ L s.heap news) (m1 : (a, W.listOf vs.toArray n) ∈ news) (m2 : (b, W.listOf vs'.toArray n') ∈ news) (S1 : StepsIn ts vs sp) (S2 : StepsIn ts' vs' sp') (i1 : ∀ p ∈ ts, p ∈ news) (i2 : ∀ p ∈ ts', p ∈ news) (hu : A.units + 16 < cLine)
    (h : Q (.bool (decide (sp = sp'))) s) : wpAny (model prog w) A (compareOp .Eq (.ref a) (.ref b)) Q E s := by
  by_cases hl : sp.length = sp'.length
  · refine RcAt.lists (e := fun j => decide (sp[j]? = sp'[j]?)) ⟨_, (N _ m1).1, rfl, _, rfl⟩ ⟨_, (N _ m2).1, rfl, _, rfl⟩ (by simpa [S1.len, S2.len] using hl) (by omega) (steps_each N S1 S2 i1 i2 hu) prog w E Q ?_
    rw [show vs.toArray.size = sp.length by simpa using S1.len, all_eq hl]
    exact h
  · refine RcAt.lists_lengths ⟨_, (N _ m1).1, rfl, _, rfl⟩ ⟨_, (N _ m2).1, rfl, _, rfl⟩ (by simpa [S1.len, S2.len] using hl) (by omega) prog w E Q ?_
    rw [decide_eq_false (fun e => hl (congrArg _ e))] at h
    exact h
end
end Mine

namespace Mine

theorem word_len {i : Int} (h : 0 ≤ i) (h' : i < 5) : (wordAt i).length ≤ 20 := by
  have hc : i = 0 ∨ i = 1 ∨ i = 2 ∨ i = 3 ∨ i = 4 := by omega
  rcases hc with rfl | rfl | rfl | rfl | rfl <;> decide
theorem fig_len {i : Int} (h : 0 ≤ i) (h' : i < 5) : (figAt i).length ≤ 20 := by
  have hc : i = 0 ∨ i = 1 ∨ i = 2 ∨ i = 3 ∨ i = 4 := by omega
  rcases hc with rfl | rfl | rfl | rfl | rfl <;> decide
theorem cmd_len {st} (h : IsCmd st) : st.2.length ≤ 60 := by
  obtain ⟨t, i, -, -, h1, h2, h | ⟨j, h3, h4, h⟩⟩ := h
  · have := word_len h1 h2
    rw [h]; simp only [cmdA, List.length_append, List.length_cons, List.length_nil]; omega
  · have := word_len h1 h2
    have := fig_len h3 h4
    rw [h]; simp only [cmdB, List.length_append, List.length_cons, List.length_nil]; omega
theorem end_len {st} (h : IsEnd st) : st.2.length ≤ 60 := by
  obtain ⟨i, j, h1, h2, h3, h4, h⟩ := h
  have := word_len h1 h2
  have := fig_len h3 h4
  rw [h]; simp only [cmdE, List.length_append, List.length_cons, List.length_nil]; omega
theorem tail_len {q} (h : Within q 4) : (tailAt q).length ≤ 20 := by
  have hc : q = 0 ∨ q = 1 ∨ q = 2 ∨ q = 3 := by have := h.1; have := h.2; omega
  rcases hc with rfl | rfl | rfl | rfl <;> decide
theorem cat_len : ∀ {cs : List (Str × List Int)}, (∀ st ∈ cs, IsCmd st) → (cat cs).length ≤ 60 * cs.length
  | [], _ => Nat.le_refl _
  | c :: cs, h => by
    have h1 := cmd_len (h c (.head _))
    have h2 := cat_len (cs := cs) fun st hs => h st (.tail _ hs)
    simp only [cat, List.map_cons, List.flatten_cons, List.length_append, List.length_cons] at h2 ⊢
    omega
theorem script_len {sp tail} (h : Script sp tail) : (cat sp ++ tail).length ≤ 1000 := by
  obtain ⟨cs, h1, h2, ⟨rfl, rfl⟩ | ⟨e, q, he, hq, rfl, rfl⟩⟩ := h
  · have := cat_len h2
    simp only [List.append_nil]; omega
  · have := cat_len h2
    have := end_len he
    have := tail_len hq
    rw [cat_snoc, List.length_append, List.length_append]; omega

end Mine

namespace Mine
theorem getD_app {c x : List Int} {k : Nat} (h : k < c.length) : (c ++ x).getD k 0 = c.getD k 0 := by
  rw [List.getD_eq_getElem?_getD, List.getD_eq_getElem?_getD, List.getElem?_append_left h]
theorem crAt_app {c x : List Int} {k : Nat} (h : k + 1 < c.length) : crAt (c ++ x) k = crAt c k := by
  unfold crAt; rw [getD_app (by omega), getD_app h]
theorem findCR_app {c x : List Int} {i j : Nat} (h : findCR c i = some j) : findCR (c ++ x) i = some j := by
  unfold findCR at h ⊢
  have hlen : (c ++ x).length + 1 - (i + 2) = (c.length + 1 - (i + 2)) + ((c ++ x).length - c.length - (i + 1 - c.length)) := by
    rw [List.length_append]
    have hj := findCR_some (ks := c) (i := i) (j := j) h
    omega
  rw [hlen, List.range_add, List.map_append, List.find?_append]
  have e : ((List.range (c.length + 1 - (i + 2))).map (· + i)).find? (crAt (c ++ x)) = some j := by
    rw [← h]
    apply find_congr
    intro y hy
    obtain ⟨z, hz, rfl⟩ := List.mem_map.mp hy
    have := List.mem_range.mp hz
    exact crAt_app (by omega)
  rw [e]; rfl
theorem scan_app {c x : List Int} {b : Nat} : ∀ k, k ≤ c.length → scan (c ++ x) b k = scan c b k
  | 0, _ => rfl
  | k + 1, h => by
    rw [scan, scan, getD_app (by omega), scan_app k (by omega)]
theorem litHead_app {c x : List Int} {b e : Nat} (h : e ≤ c.length) : litHead (c ++ x) b e = litHead c b e := by
  unfold litHead
  by_cases h0 : e ≤ b
  · rw [if_pos (.inl h0), if_pos (.inl h0)]
  · have e1 : (c ++ x).getD (e - 1) 0 = c.getD (e - 1) 0 := getD_app (by omega)
    have e2 : (c ++ x).getD (e - 2) 0 = c.getD (e - 2) 0 := getD_app (by omega)
    rw [e1, e2]
    by_cases h1 : e ≤ b ∨ c.getD (e - 1) 0 ≠ 125
    · rw [if_pos h1, if_pos h1]
    · rw [if_neg h1, if_neg h1]
      dsimp only
      generalize decide (e - 1 ≤ b ∨ c.getD (e - 2) 0 ≠ 43) = wt
      have hl : (if wt = true then e - 1 else e - 2) ≤ c.length := by split <;> omega
      generalize (if wt = true then e - 1 else e - 2) = last at hl
      rw [scan_app last hl]
      have hs := scan_le (ks := c) (b := b) last
      generalize scan c b last = k at hs
      have e3 : k ≤ b ∨ (c ++ x).getD (k - 1) 0 = c.getD (k - 1) 0 := by
        by_cases hk : k ≤ b
        · exact .inl hk
        · exact .inr (getD_app (by omega))
      have e4 : ((c ++ x).drop k).take (last - k) = (c.drop k).take (last - k) := by
        rw [List.drop_append_of_le_length (by omega), List.take_append_of_le_length (by rw [List.length_drop]; omega)]
      rw [e4]
      rcases e3 with hk | hk
      · rw [if_pos (.inl hk), if_pos (.inl hk)]
      · rw [hk]

/-- decided within the text at hand, or not -/
def longT (ks : List Int) (most : Int) : Nat → Nat → Option (Option (Int × Bool))
  | 0, _ => none
  | f + 1, here =>
    if ks.length < here then none else
    match findCR ks here with
    | none => none
    | some feed =>
      match litHead ks here feed with
      | none => some none
      | some (n, wt) => if most < n then some (some ((feed : Int) + 2, wt)) else longT ks most f ((feed : Int) + 2 + n).toNat
def cmdT (ks : List Int) : Nat → Nat → Option (Int × Option (Int × Bool))
  | 0, _ => none
  | f + 1, here =>
    match findCR ks here with
    | none => none
    | some feed =>
      match litHead ks here feed with
      | none => some ((feed : Int) + 2, none)
      | some (n, _) =>
        if (ks.length : Int) ≤ (feed : Int) + 2 + n then none else cmdT ks f ((feed : Int) + 2 + n).toNat
theorem longT_app {c x : List Int} {most : Int} {r} : ∀ f g here, f ≤ g → longT c most f here = some r → longHead (c ++ x) most g here = r
  | 0, _, _, _, h => by cases h
  | f + 1, 0, _, hg, _ => absurd hg (by omega)
  | f + 1, g + 1, here, hg, h => by
    rw [longT] at h
    by_cases h0 : c.length < here
    · rw [if_pos h0] at h; cases h
    · rw [if_neg h0] at h
      rw [longHead, if_neg (by rw [List.length_append]; omega)]
      cases hf : findCR c here with
      | none => rw [hf] at h; cases h
      | some j =>
        have hj := findCR_some hf
        rw [hf] at h; rw [findCR_app hf]
        dsimp only at h ⊢
        rw [litHead_app (by omega)]
        cases hl : litHead c here j with
        | none => rw [hl] at h; exact Option.some.inj h
        | some q =>
          obtain ⟨n, wt⟩ := q
          rw [hl] at h; dsimp only at h ⊢
          by_cases hm : most < n
          · rw [if_pos hm] at h ⊢; exact Option.some.inj h
          · rw [if_neg hm] at h ⊢; exact longT_app f g _ (by omega) h
theorem cmdT_app {c x : List Int} {r} : ∀ f g here, f ≤ g → cmdT c f here = some r → cmdEnd (c ++ x) g here = r
  | 0, _, _, _, h => by cases h
  | f + 1, 0, _, hg, _ => absurd hg (by omega)
  | f + 1, g + 1, here, hg, h => by
    rw [cmdT] at h
    rw [cmdEnd]
    cases hf : findCR c here with
    | none => rw [hf] at h; cases h
    | some j =>
      have hj := findCR_some hf
      rw [hf] at h; rw [findCR_app hf]
      dsimp only at h ⊢
      rw [litHead_app (by omega)]
      cases hl : litHead c here j with
      | none => rw [hl] at h; exact Option.some.inj h
      | some q =>
        obtain ⟨n, wt⟩ := q
        have hn := litHead_nonneg hl
        rw [hl] at h; dsimp only at h ⊢
        by_cases hm : (c.length : Int) ≤ (j : Int) + 2 + n
        · rw [if_pos hm] at h; cases h
        · rw [if_neg hm] at h
          rw [if_neg (by rw [List.length_append]; omega), if_neg (by rw [List.length_append]; omega)]
          exact cmdT_app f g _ (by omega) h
end Mine

namespace Mine
/-- what a held part of a command answers: nothing, or an ask behind a head -/
def partOk (c : List Int) (n : Nat) : Bool :=
  longHead (c.take n) 1000000 (n + 1) 0 == none && (cmdEnd (c.take n) (n + 1) 0).1 == -1 &&
    (match (cmdEnd (c.take n) (n + 1) 0).2 with
     | some (_, true) => (decide (4 ≤ n) && (c.take n).drop (n - 3) == [125, 13, 10]) && (c.take n).drop (n - 4) != [43, 125, 13, 10]
     | _ => true)
theorem t2 : ∀ t : Fin 4, ∀ i : Fin 5, ∀ n : Fin 60, n.val < (cmdA (t.val : Int) (i.val : Int)).length → partOk (cmdA (t.val : Int) (i.val : Int)) n.val = true := by decide +kernel
theorem t3a0 : ∀ i : Fin 5, ∀ j : Fin 5, ∀ n : Fin 60, n.val < (cmdB ((0 : Nat) : Int) (i.val : Int) (j.val : Int)).length → partOk (cmdB ((0 : Nat) : Int) (i.val : Int) (j.val : Int)) n.val = true := by decide +kernel
theorem t3a1 : ∀ i : Fin 5, ∀ j : Fin 5, ∀ n : Fin 60, n.val < (cmdB ((1 : Nat) : Int) (i.val : Int) (j.val : Int)).length → partOk (cmdB ((1 : Nat) : Int) (i.val : Int) (j.val : Int)) n.val = true := by decide +kernel
theorem t3a2 : ∀ i : Fin 5, ∀ j : Fin 5, ∀ n : Fin 60, n.val < (cmdB ((2 : Nat) : Int) (i.val : Int) (j.val : Int)).length → partOk (cmdB ((2 : Nat) : Int) (i.val : Int) (j.val : Int)) n.val = true := by decide +kernel
theorem t3a3 : ∀ i : Fin 5, ∀ j : Fin 5, ∀ n : Fin 60, n.val < (cmdB ((3 : Nat) : Int) (i.val : Int) (j.val : Int)).length → partOk (cmdB ((3 : Nat) : Int) (i.val : Int) (j.val : Int)) n.val = true := by decide +kernel
theorem t3 : ∀ t : Fin 4, ∀ i : Fin 5, ∀ j : Fin 5, ∀ n : Fin 60, n.val < (cmdB (t.val : Int) (i.val : Int) (j.val : Int)).length → partOk (cmdB (t.val : Int) (i.val : Int) (j.val : Int)) n.val = true
  | ⟨0, _⟩ => t3a0
  | ⟨1, _⟩ => t3a1
  | ⟨2, _⟩ => t3a2
  | ⟨3, _⟩ => t3a3
theorem t4 : ∀ i : Fin 5, ∀ j : Fin 5, ∀ n : Fin 60, n.val < (cmdE (i.val : Int) (j.val : Int)).length → partOk (cmdE (i.val : Int) (j.val : Int)) n.val = true := by decide +kernel
def fullA (c : List Int) : Bool := longT c 1000000 (c.length + 1) 0 == some none && cmdT c (c.length + 1) 0 == some ((c.length : Int), none)
def fullB (c : List Int) (wt : Bool) : Bool := longT c 1000000 (c.length + 1) 0 == some (some ((c.length : Int), wt))
theorem f2 : ∀ t : Fin 4, ∀ i : Fin 5, fullA (cmdA (t.val : Int) (i.val : Int)) = true := by decide +kernel
theorem f3 : ∀ t : Fin 4, ∀ i : Fin 5, ∀ j : Fin 5, fullB (cmdB (t.val : Int) (i.val : Int) (j.val : Int)) true = true := by decide +kernel
theorem f4 : ∀ i : Fin 5, ∀ j : Fin 5, fullB (cmdE (i.val : Int) (j.val : Int)) false = true := by decide +kernel

theorem as_fin {n : Nat} {i : Int} (h0 : 0 ≤ i) (h1 : i < n) : ∃ k : Fin n, i = (k.val : Int) := ⟨⟨i.toNat, by omega⟩, by simp; omega⟩

/-- a due step -/
def IsDue (st : Str × List Int) : Prop := IsCmd st ∨ IsEnd st
theorem due_part {st} (h : IsDue st) {n : Nat} (hn : n < st.2.length) : partOk st.2 n = true := by
  rcases h with h | h
  · have hl := cmd_len h
    obtain ⟨t, i, a1, a2, a3, a4, h | ⟨j, a5, a6, h⟩⟩ := h
    · obtain ⟨t, rfl⟩ := as_fin (n := 4) a1 a2
      obtain ⟨i, rfl⟩ := as_fin (n := 5) a3 a4
      rw [h] at hn hl ⊢
      exact t2 t i ⟨n, Nat.lt_of_lt_of_le hn hl⟩ hn
    · obtain ⟨t, rfl⟩ := as_fin (n := 4) a1 a2
      obtain ⟨i, rfl⟩ := as_fin (n := 5) a3 a4
      obtain ⟨j, rfl⟩ := as_fin (n := 5) a5 a6
      rw [h] at hn hl ⊢
      exact t3 t i j ⟨n, Nat.lt_of_lt_of_le hn hl⟩ hn
  · have hl := end_len h
    obtain ⟨i, j, a3, a4, a5, a6, h⟩ := h
    obtain ⟨i, rfl⟩ := as_fin (n := 5) a3 a4
    obtain ⟨j, rfl⟩ := as_fin (n := 5) a5 a6
    rw [h] at hn hl ⊢
    exact t4 i j ⟨n, Nat.lt_of_lt_of_le hn hl⟩ hn

theorem due_full {st} (h : IsDue st) (x : List Int) (a : Int) : nextStep (st.2 ++ x) a = (some st, x, -1) := by
  have htk : (st.2 ++ x).take ((st.2.length : Int)).toNat = st.2 := by simp
  have hdr : (st.2 ++ x).drop ((st.2.length : Int)).toNat = x := by simp
  have hg : st.2.length + 1 ≤ (st.2 ++ x).length + 1 := by rw [List.length_append]; omega
  rcases h with h | h
  · obtain ⟨t, i, a1, a2, a3, a4, h | ⟨j, a5, a6, h⟩⟩ := h
    · obtain ⟨t, rfl⟩ := as_fin (n := 4) a1 a2
      obtain ⟨i, rfl⟩ := as_fin (n := 5) a3 a4
      subst h
      have hf := f2 t i
      unfold fullA at hf
      rw [Bool.and_eq_true, beq_iff_eq, beq_iff_eq] at hf
      rw [ns_cmd (longT_app _ _ 0 hg hf.1) (cmdT_app _ _ 0 hg hf.2) (by simp), htk, hdr]
    · obtain ⟨t, rfl⟩ := as_fin (n := 4) a1 a2
      obtain ⟨i, rfl⟩ := as_fin (n := 5) a3 a4
      obtain ⟨j, rfl⟩ := as_fin (n := 5) a5 a6
      subst h
      have hf := f3 t i j
      unfold fullB at hf
      rw [beq_iff_eq] at hf
      rw [ns_long (longT_app _ _ 0 hg hf), htk, hdr, if_pos rfl]
  · obtain ⟨i, j, a3, a4, a5, a6, h⟩ := h
    obtain ⟨i, rfl⟩ := as_fin (n := 5) a3 a4
    obtain ⟨j, rfl⟩ := as_fin (n := 5) a5 a6
    subst h
    have hf := f4 i j
    unfold fullB at hf
    rw [beq_iff_eq] at hf
    rw [ns_long (longT_app _ _ 0 hg hf), htk, hdr, if_neg Bool.false_ne_true]

def behind (l : List Int) : Prop := 4 ≤ l.length ∧ l.drop (l.length - 3) = [125, 13, 10] ∧ l.drop (l.length - 4) ≠ [43, 125, 13, 10]
theorem due_held {st} (h : IsDue st) {n : Nat} (hn : n < st.2.length) (a : Int) :
    nextStep (st.2.take n) a = (none, st.2.take n, a) ∨ (a ≠ n ∧ nextStep (st.2.take n) a = (some (Str.ofString "ask", []), st.2.take n, (n : Int)) ∧ behind (st.2.take n) ∧ ∀ b, nextStep (st.2.take n) b = if b = n then (none, st.2.take n, b) else (some (Str.ofString "ask", []), st.2.take n, (n : Int))) := by
  have hp := due_part h hn
  have hlen : (st.2.take n).length = n := by rw [List.length_take]; omega
  unfold partOk at hp
  rw [Bool.and_eq_true, Bool.and_eq_true, beq_iff_eq, beq_iff_eq] at hp
  obtain ⟨⟨h1, h2⟩, h3⟩ := hp
  rw [show n + 1 = (st.2.take n).length + 1 by rw [hlen]] at h1 h2 h3
  rcases hc : cmdEnd (st.2.take n) ((st.2.take n).length + 1) 0 with ⟨e, hd⟩
  rw [hc] at h2 h3
  dsimp only at h2 h3
  subst h2
  cases hd with
  | none => exact .inl (ns_none1 h1 hc (by omega))
  | some q =>
    obtain ⟨m, wt⟩ := q
    cases wt with
    | false => exact .inl (ns_none2 h1 hc (by omega) (.inl rfl))
    | true =>
      have hask : ∀ b : Int, nextStep (st.2.take n) b = if b = n then (none, st.2.take n, b) else (some (Str.ofString "ask", []), st.2.take n, (n : Int)) := by
        intro b
        by_cases hb : b = n
        · rw [if_pos hb]; exact ns_none2 h1 hc (by omega) (.inr (by rw [hlen]; exact hb))
        · rw [if_neg hb, ns_ask h1 hc (by omega) (by decide) (by rw [hlen]; exact hb), hlen]
      by_cases ha : a = n
      · left; rw [hask a, if_pos ha]
      · right
        refine ⟨ha, by rw [hask a, if_neg ha], ?_, hask⟩
        rw [Bool.and_eq_true, Bool.and_eq_true, decide_eq_true_eq, beq_iff_eq, bne_iff_ne] at h3
        unfold behind
        rw [hlen]
        exact ⟨h3.1.1, h3.1.2, h3.2⟩
end Mine

namespace Mine
inductive Pend : List (Str × List Int) → List Int → Prop
  | done : Pend [] []
  | cmd {st r tail} : IsCmd st → Pend r tail → Pend (st :: r) tail
  | fin {st tail} : IsEnd st → Pend [st] tail

theorem pend_of : ∀ {cs : List (Str × List Int)} {r tail}, (∀ st ∈ cs, IsCmd st) → Pend r tail → Pend (cs ++ r) tail
  | [], _, _, _, h => h
  | c :: cs, _, _, h, hp => .cmd (h c (.head _)) (pend_of (fun st hs => h st (.tail _ hs)) hp)
theorem script_pend {sp tail} (h : Script sp tail) : Pend sp tail ∧ sp.length ≤ 5 := by
  obtain ⟨cs, h1, h2, ⟨rfl, rfl⟩ | ⟨e, q, he, hq, rfl, rfl⟩⟩ := h
  · have := pend_of h2 .done
    rw [List.append_nil] at this
    exact ⟨this, by omega⟩
  · exact ⟨pend_of h2 (.fin he), by rw [List.length_append]; simp; omega⟩

theorem kinds_differ : (Str.ofString "command" ≠ Str.ofString "end" ∧ Str.ofString "command" ≠ Str.ofString "ask") ∧ (Str.ofString "refuse" ≠ Str.ofString "end" ∧ Str.ofString "refuse" ≠ Str.ofString "ask") ∧ Str.ofString "end" ≠ Str.ofString "ask" := by decide +kernel
theorem cmd_kind {st} (h : IsCmd st) : st.1 ≠ Str.ofString "end" ∧ st.1 ≠ Str.ofString "ask" := by
  obtain ⟨t, i, -, -, -, -, h | ⟨j, -, -, h⟩⟩ := h
  · rw [h]; exact kinds_differ.1
  · rw [h]; exact kinds_differ.2.1
theorem end_kind {st} (h : IsEnd st) : st.1 = Str.ofString "end" ∧ st.1 ≠ Str.ofString "ask" := by
  obtain ⟨i, j, -, -, -, -, h⟩ := h
  rw [h]; exact ⟨rfl, kinds_differ.2.2⟩
theorem next_nil (a : Int) : nextStep [] a = (none, [], a) := ns_none1 (by decide +kernel) (e := -1) (by decide +kernel) (by decide)
theorem cat_cons (st : Str × List Int) (r) : cat (st :: r) = st.2 ++ cat r := by simp [cat]

/-- what a run of steps finds -/
structure Ran (pend : List (Str × List Int)) (tail held : List Int) (R : List (Str × List Int) × List Int × Int) : Prop where
  ex : ∃ dn pend', pend = dn ++ pend' ∧
    ((pend' = [] ∧ R.1 = dn ∧ ∃ d0 e, dn = d0 ++ [e] ∧ IsEnd e ∧ ∀ st ∈ d0, IsCmd st) ∨
     ((∀ st ∈ dn, IsCmd st) ∧ Pend pend' tail ∧ held = cat dn ++ R.2.1 ∧ ((pend' = [] ∧ R.2.1 = []) ∨ ∃ c r k, pend' = c :: r ∧ k < c.2.length ∧ R.2.1 = c.2.take k) ∧
      (R.1 = dn ∨ (R.1 = dn ++ [(Str.ofString "ask", [])] ∧ behind R.2.1))))

theorem run_cut {tail : List Int} : ∀ {pend : List (Str × List Int)} {held fut : List Int} (n : Nat) (a : Int), Pend pend tail → held ++ fut = cat pend ++ tail → pend.length + 2 ≤ n → Ran pend tail held (runSteps n held a)
  | [], held, fut, n, a, hp, he, hn => by
    cases hp
    have h0 : held = [] := by
      have := congrArg List.length he
      simp [cat] at this
      exact List.eq_nil_of_length_eq_zero (by simp [this.1])
    subst h0
    obtain ⟨n, rfl⟩ : ∃ k, n = k + 1 := ⟨n - 1, by omega⟩
    rw [runSteps, next_nil]
    exact ⟨[], [], rfl, .inr ⟨(fun _ h => nomatch h), .done, rfl, .inl ⟨rfl, rfl⟩, .inl rfl⟩⟩
  | c :: r, held, fut, n, a, hp, he, hn => by
    have hdue : IsDue c := by cases hp with
      | cmd h _ => exact .inl h
      | fin h => exact .inr h
    obtain ⟨n, rfl⟩ : ∃ k, n = k + 1 := ⟨n - 1, by simp at hn; omega⟩
    rw [cat_cons, List.append_assoc] at he
    by_cases hlen : c.2.length ≤ held.length
    · -- the whole command is held
      have hx : held = c.2 ++ held.drop c.2.length := by
        have h1 : (held ++ fut).take c.2.length = c.2 := by rw [he]; simp
        rw [List.take_append_of_le_length hlen] at h1
        conv => lhs; rw [← List.take_append_drop c.2.length held]
        rw [h1]
      generalize held.drop c.2.length = x at hx
      subst hx
      rw [List.append_assoc] at he
      have he' := List.append_cancel_left he
      rw [runSteps, due_full hdue]
      dsimp only
      cases hp with
      | fin h =>
        rw [if_pos (end_kind h).1]
        exact ⟨[c], [], rfl, .inl ⟨rfl, rfl, [], c, rfl, h, (fun _ h => nomatch h)⟩⟩
      | cmd h hr =>
        rw [if_neg (cmd_kind h).1]
        obtain ⟨dn, pend', e1, e2⟩ := (run_cut n (-1) hr he' (by simp at hn; omega)).ex
        refine ⟨c :: dn, pend', by rw [e1]; rfl, ?_⟩
        rcases e2 with ⟨p1, p2, d0, e, p3, p4, p5⟩ | ⟨p1, p2, p3, p4, p5⟩
        · exact .inl ⟨p1, by rw [p2], c :: d0, e, by rw [p3]; rfl, p4, List.forall_mem_cons.mpr ⟨h, p5⟩⟩
        · refine .inr ⟨List.forall_mem_cons.mpr ⟨h, p1⟩, p2, ?_, p4, ?_⟩
          · rw [cat_cons, List.append_assoc, ← p3]
          · rcases p5 with p5 | ⟨p5, p6⟩
            · exact .inl (by rw [p5])
            · exact .inr ⟨by rw [p5]; rfl, p6⟩
    · -- a part of it
      have hx : held = c.2.take held.length := by
        have h1 : (held ++ fut).take held.length = held := by simp
        rw [he, List.take_append_of_le_length (by omega)] at h1
        exact h1.symm
      have hk : held.length < c.2.length := by omega
      generalize held.length = k at hx hk
      subst hx
      have hR : ∀ R : List (Str × List Int) × List Int × Int, R.2.1 = c.2.take k → (R.1 = [] ∨ (R.1 = [(Str.ofString "ask", [])] ∧ behind (c.2.take k))) → Ran (c :: r) tail (c.2.take k) R := by
        intro R h1 h2
        refine ⟨[], c :: r, rfl, .inr ⟨(fun _ h => nomatch h), hp, by rw [h1]; rfl, .inr ⟨c, r, k, rfl, hk, h1⟩, ?_⟩⟩
        rw [h1]
        exact h2
      rw [runSteps]
      rcases due_held hdue hk a with h | ⟨ha, h, hb, hall⟩
      · rw [h]; exact hR _ rfl (.inl rfl)
      · rw [h]
        dsimp only
        rw [if_neg (by decide +kernel)]
        obtain ⟨n, rfl⟩ : ∃ j, n = j + 1 := ⟨n - 1, by simp at hn; omega⟩
        rw [runSteps, hall, if_pos rfl]
        exact hR _ rfl (.inr ⟨rfl, hb⟩)

theorem cat_append (a b : List (Str × List Int)) : cat (a ++ b) = cat a ++ cat b := by simp [cat]
theorem not_behind_nil : ¬ behind [] := fun h => absurd h.1 (by decide)
theorem whole {sp tail} (h : Script sp tail) : (runSteps 30 (cat sp ++ tail) (-1)).1 = sp := by
  obtain ⟨hp, hl⟩ := script_pend h
  have hran := run_cut (fut := []) 30 (-1) hp (List.append_nil _) (by omega)
  generalize runSteps 30 (cat sp ++ tail) (-1) = R at hran ⊢
  obtain ⟨dn, pend', e1, e2⟩ := hran.ex
  rcases e2 with ⟨p1, p2, -⟩ | ⟨p1, p2, p3, p4, p5⟩
  · rw [p2, e1, p1, List.append_nil]
  · rw [e1, cat_append, List.append_assoc] at p3
    have p3' := List.append_cancel_left p3
    rcases p4 with ⟨q1, q2⟩ | ⟨c, r, k, q1, q2, q3⟩
    · rcases p5 with p5 | ⟨-, p5⟩
      · rw [p5, e1, q1, List.append_nil]
      · rw [q2] at p5; exact absurd p5 not_behind_nil
    · rw [q3, q1, cat_cons] at p3'
      have := congrArg List.length p3'
      simp only [List.length_append, List.length_take] at this
      omega
end Mine

namespace Mine

theorem len_S {prog : Program} {w : World} {A : Around} {E : Value → Shared → Prop} {s : Shared} {b : Array UInt8} {t : Tok} {Q : Value → Shared → Prop} {ks : List Int} (hb : KBw.bInts b = ks) (hz : ks.length ≤ 1000000) (h : ∀ (t' : Tok) (k : Nat), Q (.int (ks.length : Nat) t') { s with toks := k }) :
    wpAny (model prog w) A (call (.builtin "len") [.bytes b t]) Q E s :=
  len_bytes (by rw [bInts_len hb]; omega) (by rw [bInts_len hb]; exact h _ _)

theorem rot5 {h₀ h : Heap} {L : Addr} {a b c d e : Addr × Obj} {l : List (Addr × Obj)} (N : News h₀ L h (a :: b :: c :: d :: e :: l)) : News h₀ L h (d :: e :: a :: b :: c :: l) := news_sub N fun p h => by
  simp only [List.mem_cons] at h ⊢
  rcases h with h | h | h | h | h | h <;> simp [h]
theorem back5 {α : Type} {a b c d e : α} {l : List α} : ∀ p ∈ a :: b :: c :: d :: e :: l, p ∈ d :: e :: a :: b :: c :: l := fun p h => by
  simp only [List.mem_cons] at h ⊢
  rcases h with h | h | h | h | h | h <;> simp [h]

/-- while the cuts are drawn: the bag, and the cuts so far -/
def CutsInv (B C : Addr) (rest0 : List (Addr × Obj)) (len : Nat) (ys : List Value) (news : List (Addr × Obj)) : Prop :=
  ∃ (cuts : List Int) (cs : List Value) (ns : List Int) (turn seed : Int) (tt ts : Tok) (nB nC : Nat), news = (B, bagObj C turn seed tt ts nB) :: (C, W.listOf cs.toArray nC) :: rest0 ∧ IntsAre ys cuts ∧ (∀ n ∈ cuts, 0 ≤ n ∧ n ≤ len) ∧ BagOk cs ns turn seed

theorem ints_snoc {ys : List Value} {cuts : List Int} {n : Int} {t : Tok} (h : IntsAre ys cuts) : IntsAre (ys ++ [.int n t]) (cuts ++ [n]) := by
  induction h with
  | nil => exact .cons n t .nil
  | cons a u _ ih => exact .cons a u ih

section
variable {prog : Program} {w : World} {A : Around} {h₀ : Heap} {L : Addr} {m : Str → Option Value} {env : Env} {elt : Expr} {x : Str} {scope : Scope} {cl : List (Str × Addr)} {s : Shared} {P : Nat → Value → Prop} {Fin : List Value → List (Addr × Obj) → Prop} {B C : Addr} {rest0 : List (Addr × Obj)} {len : Nat}
theorem cuts_all
    (step : ∀ (v : Value) (I : Addr) (oI : Obj) (Cc : Addr) (oC : Obj) (D : Addr) (m₂ : Str → Option Value) (h : Heap) (tk : Nat) (E' : Value → Shared → Prop) (ys : List Value) (cuts : List Int) (cs : List Value) (ns : List Int) (turn seed : Int) (tt ts : Tok) (nB nC : Nat),
      IntsAre ys cuts → (∀ n ∈ cuts, 0 ≤ n ∧ n ≤ len) → BagOk cs ns turn seed → LCg.NsObj oC m₂ → m₂ x = some v → Fr h₀ L h m → News h₀ L h ((I, oI) :: (Cc, oC) :: (D, LCg.lst ys) :: (B, bagObj C turn seed tt ts nB) :: (C, W.listOf cs.toArray nC) :: rest0) → LCg.Off3 I Cc D ((B, bagObj C turn seed tt ts nB) :: (C, W.listOf cs.toArray nC) :: rest0) → ((@Ne Nat I Cc) ∧ (@Ne Nat I D) ∧ (@Ne Nat Cc D)) →
      wpAny (model prog w) A (eval elt (compEnvC scope cl Cc env)) (LCg.CompEnd h₀ L m { s with heap := h, toks := tk } I oI Cc oC D (LCg.lst ys) (fun _ => True) (fun y news' => CutsInv B C rest0 len (ys ++ [y]) news')) E' { s with heap := h, toks := tk })
    {M : Nat} (fin : ∀ ys news, ys.length ≤ M → CutsInv B C rest0 len ys news → Fin ys news) : ∀ k i ys news, ys.length + k ≤ M → CutsInv B C rest0 len ys news → LCg.CompRest prog w A h₀ L m env elt x scope cl s (fun _ => True) P Fin k i ys news
  | 0, i, ys, news, hM, hI => fin ys news hM hI
  | k + 1, i, ys, news, hM, hI => by
    refine LCg.CompRest.succ fun v I oI Cc oC D m₂ h tk E' _ hNs hv F N off hne => ?_
    obtain ⟨cuts, cs, ns, turn, seed, tt, ts, nB, nC, rfl, h1, h2, h3⟩ := hI
    refine wpAny_mono (step v I oI Cc oC D m₂ h tk E' ys cuts cs ns turn seed tt ts nB nC h1 h2 h3 hNs hv F N off hne) (fun y s₂ q => ?_) fun _ _ e => e
    obtain ⟨h', tk', news', e, F', N', o', S', r⟩ := q
    exact ⟨h', tk', news', e, F', N', o', S', cuts_all step fin k (i + 1) _ _ (by rw [List.length_append, List.length_singleton]; omega) r⟩
end
end Mine

namespace Mine
theorem behind_app {p l : List Int} (h : behind l) : behind (p ++ l) := by
  obtain ⟨h1, h2, h3⟩ := h
  refine ⟨by rw [List.length_append]; omega, ?_, ?_⟩
  · rw [List.length_append, show p.length + l.length - 3 = p.length + (l.length - 3) by omega, List.drop_append]
    rw [List.drop_eq_nil_of_le (by omega), List.nil_append, show p.length + (l.length - 3) - p.length = l.length - 3 by omega]
    exact h2
  · rw [List.length_append, show p.length + l.length - 4 = p.length + (l.length - 4) by omega, List.drop_append]
    rw [List.drop_eq_nil_of_le (by omega), List.nil_append, show p.length + (l.length - 4) - p.length = l.length - 4 by omega]
    exact h3

/-- between the cuts: what is found, what is held; the text up to b was handed in -/
inductive LoopInv (sp : List (Str × List Int)) (tail : List Int) (found : List (Str × List Int)) (held : List Int) (b : Nat) : Prop
  | ended (h : found = sp) (d0 e) (h1 : found = d0 ++ [e]) (he : IsEnd e)
  | going (pend) (h : sp = found ++ pend) (hc : ∀ st ∈ found, IsCmd st) (hp : Pend pend tail) (hh : cat found ++ held = (cat sp ++ tail).take b) (hs : (pend = [] ∧ held = []) ∨ ∃ c r k, pend = c :: r ∧ k < c.2.length ∧ held = c.2.take k)

theorem loop_init {sp tail} (h : Script sp tail) : LoopInv sp tail [] [] 0 := by
  obtain ⟨hp, hl⟩ := script_pend h
  refine .going sp rfl (fun _ h => nomatch h) hp rfl ?_
  cases sp with
  | nil => exact .inl ⟨rfl, rfl⟩
  | cons c r =>
    refine .inr ⟨c, r, 0, rfl, ?_, rfl⟩
    have hd : IsDue c := by cases hp with
      | cmd h' _ => exact .inl h'
      | fin h' => exact .inr h'
    rcases Nat.eq_zero_or_pos c.2.length with h0 | h0
    · have e : c.2 = [] := List.eq_nil_of_length_eq_zero h0
      have h1 := due_full hd [] 0
      rw [e, List.nil_append, next_nil] at h1
      cases h1
    · exact h0

theorem loop_step {sp tail found held b} (hs : Script sp tail) {c : Nat} (hbc : b ≤ c) (hc : c ≤ (cat sp ++ tail).length) (a : Int) (hg : ∀ d0 e, found = d0 ++ [e] → e.1 ≠ Str.ofString "end") (h : LoopInv sp tail found held b) :
    ∃ dn, LoopInv sp tail (found ++ dn) (runSteps 30 (held ++ ((cat sp ++ tail).take c).drop b) a).2.1 c ∧ (∀ st ∈ dn, st.1 ≠ Str.ofString "ask") ∧
      ((runSteps 30 (held ++ ((cat sp ++ tail).take c).drop b) a).1 = dn ∨ ((runSteps 30 (held ++ ((cat sp ++ tail).take c).drop b) a).1 = dn ++ [(Str.ofString "ask", [])] ∧ behind ((cat sp ++ tail).take c))) := by
  obtain ⟨-, hl⟩ := script_pend hs
  cases h with
  | ended h d0 e h1 he => exact absurd (end_kind he).1 (hg d0 e h1)
  | going pend h hcm hp hh hst =>
    have hdata : (cat sp ++ tail) = cat found ++ (held ++ ((cat sp ++ tail).take c).drop b ++ (cat sp ++ tail).drop c) := by
      have e1 : ((cat sp ++ tail).take c).take b ++ ((cat sp ++ tail).take c).drop b = (cat sp ++ tail).take c := List.take_append_drop _ _
      rw [List.take_take, Nat.min_eq_left hbc] at e1
      rw [← List.append_assoc, ← List.append_assoc, hh, e1, List.take_append_drop]
    have he : held ++ ((cat sp ++ tail).take c).drop b ++ (cat sp ++ tail).drop c = cat pend ++ tail := by
      have h1 : cat found ++ (cat pend ++ tail) = cat sp ++ tail := by rw [h, cat_append, List.append_assoc]
      rw [← h1] at hdata
      rw [h1] at hdata
      exact (List.append_cancel_left (h1.trans hdata)).symm
    have hran := run_cut 30 a hp he (by rw [h, List.length_append] at hl; omega)
    have htk : (cat sp ++ tail).take c = cat found ++ (held ++ ((cat sp ++ tail).take c).drop b) := by
      have e1 : ((cat sp ++ tail).take c).take b ++ ((cat sp ++ tail).take c).drop b = (cat sp ++ tail).take c := List.take_append_drop _ _
      rw [List.take_take, Nat.min_eq_left hbc] at e1
      rw [← List.append_assoc, hh, e1]
    generalize held ++ ((cat sp ++ tail).take c).drop b = held' at hran htk ⊢
    generalize runSteps 30 held' a = R at hran ⊢
    obtain ⟨dn, pend', e1, e2⟩ := hran.ex
    refine ⟨dn, ?_⟩
    rcases e2 with ⟨p1, p2, d0, e, p3, p4, p5⟩ | ⟨p1, p2, p3, p4, p5⟩
    · refine ⟨.ended (by rw [h, e1, p1, List.append_nil]) (found ++ d0) e (by rw [p3, List.append_assoc]) p4, ?_, .inl p2⟩
      intro st hst
      rw [p3] at hst
      rcases List.mem_append.mp hst with hst | hst
      · exact (cmd_kind (p5 st hst)).2
      · rw [List.mem_singleton.mp hst]; exact (end_kind p4).2
    · refine ⟨.going pend' (by rw [h, e1, List.append_assoc]) ?_ p2 ?_ p4, fun st hst => (cmd_kind (p1 st hst)).2, ?_⟩
      · intro st hst
        rcases List.mem_append.mp hst with hst | hst
        · exact hcm st hst
        · exact p1 st hst
      · rw [cat_append, List.append_assoc, ← p3, htk]
      · rcases p5 with p5 | ⟨p5, p6⟩
        · exact .inl p5
        · refine .inr ⟨p5, ?_⟩
          rw [htk, p3, ← List.append_assoc]
          exact behind_app p6

theorem loop_end {sp tail found held b} (hb : b = (cat sp ++ tail).length) (h : LoopInv sp tail found held b) : found = sp := by
  cases h with
  | ended h _ _ _ _ => exact h
  | going pend h hcm hp hh hst =>
    rw [hb, List.take_length, h, cat_append, List.append_assoc] at hh
    have hh' := List.append_cancel_left hh
    rcases hst with ⟨q1, -⟩ | ⟨c, r, k, q1, q2, q3⟩
    · rw [h, q1, List.append_nil]
    · rw [q1, q3, cat_cons] at hh'
      have := congrArg List.length hh'
      simp only [List.length_append, List.length_take] at this
      omega
end Mine

namespace Mine
def lastText : List Int := [116, 55, 32, 65, 32, 123, 49, 48, 48, 48, 48, 48, 48, 125, 13, 10]
theorem last_one : runSteps 30 ([] ++ lastText) (-1) = ([(Str.ofString "ask", [])], lastText, 16) := by decide +kernel
theorem last_two : (runSteps 30 (lastText ++ [97]) 16).1 = [] := by decide +kernel
end Mine

namespace Mine

/-- its order can be told: it was led from the start, or the text is followed -/
def Told (w : World) (t : SetTable) : Prop := t.led = true ∨ w.params.followText "set-order" = true

theorem orStandIn_led (t : SetTable) (n : Nat) : (t.orStandIn n).led = t.led := by
  unfold SetTable.orStandIn; split <;> rfl
theorem layNew_led (t : SetTable) (es : Array (Int × Value)) (h : Int) (x : Value) : (layNew t es h x).2.1.led = t.led := by
  unfold layNew
  split
  · exact (orStandIn_led _ _).trans rfl
  · rfl
theorem laid_led {mask finger moves : Nat} {led plain : Bool} {hashes : Array Int} {t : SetTable} {order : Array Nat} (h : SetTable.laid mask finger moves led plain hashes = some (t, order)) : t.led = led := by
  unfold SetTable.laid at h
  cases hc : SetTable.layClean mask hashes with
  | none => rw [hc] at h; cases h
  | some owner =>
    rw [hc] at h
    have h' := Option.some.inj h
    exact (congrArg (fun q => q.1.led) h').symm
theorem relayAll_led (t : SetTable) (es : Array (Int × Value)) (n : Nat) : (relayAll t es n).2.1.led = t.led := by
  unfold relayAll
  split
  · rename_i t' order heq
    dsimp only
    split
    · exact laid_led heq
    · rfl
  · rfl

/-- a set of ints within B, no more than n of them -/
def IntSet (w : World) (B : Int → Prop) (n : Nat) (o : Obj) : Prop :=
  ∃ (es : Array (Int × Value)) (ep : Nat) (t : SetTable), o = { cls := .type "set", dict := none, data := .set es ep t } ∧
    (∀ e ∈ es.toList, ∃ (k : Int) (tk : Tok), e = (hashInt k, .int k tk) ∧ B k) ∧ t.fits es.size = true ∧ Told w t ∧ es.size ≤ n

theorem elems_of {prog : Program} {w : World} {B : Int → Prop} {l : List (Int × Value)} (h : ∀ e ∈ l, ∃ (k : Int) (tk : Tok), e = (hashInt k, .int k tk) ∧ B k) : ElemsOf (intKind prog w) l := by
  intro e he
  obtain ⟨k, tk, rfl, -⟩ := h e he
  exact ⟨⟨k, intKind_is _ _ _ _, rfl⟩, rfl⟩

theorem intSet_mono {w : World} {B : Int → Prop} {n n' : Nat} {o : Obj} (h : IntSet w B n o) (hn : n ≤ n') : IntSet w B n' o := by
  obtain ⟨es, ep, t, h1, h2, h3, h4, h5⟩ := h
  exact ⟨es, ep, t, h1, h2, h3, h4, Nat.le_trans h5 hn⟩
theorem intSet_new (w : World) (B : Int → Prop) : IntSet w B 0 { cls := .type "set", dict := none, data := .set #[] 0 (.fresh 0 0 (!w.params.followText "set-order")) } := by
  refine ⟨#[], 0, _, rfl, (fun e he => nomatch he), rfl, ?_, Nat.le_refl _⟩
  unfold Told SetTable.fresh
  cases w.params.followText "set-order" with
  | false => exact .inl rfl
  | true => exact .inr rfl

section
variable {prog : Program} {w : World} {A : Around} {E : Value → Shared → Prop} {s : Shared} {a : Addr} {B : Int → Prop} {n : Nat}

theorem put_there {o : Obj} {es es' : Array (Int × Value)} {ep : Nat} {t t' : SetTable} {R : Unit → Shared → Prop} (ho : s.heap.get? a = some o) (he : o = { cls := .type "set", dict := none, data := .set es ep t })
    (hz : es'.size < scanBound)
    (h : ∀ h', Heap.SameBut a s.heap h' → h'.get? a = some { cls := .type "set", dict := none, data := .set es' (ep + 1) t' } → R () { s with heap := h' }) :
    wpAny (model prog w) A (storeSet a es' t') R E s := by
  subst he
  refine wpAny_storeSet_of ho rfl (h _ (Heap.SameBut.update ..) ?_) (fits_of_scanBound hz)
  exact Heap.get?_update_self (Obj.putSet es' t') ho rfl

theorem add_int {o : Obj} {k : Int} {tk : Tok} {Q : Bool → Shared → Prop} (ho : s.heap.get? a = some o) (hS : IntSet w B n o) (hk : B k) (hn : n + 1 < scanBound)
    (h : ∀ b h' o', Heap.SameBut a s.heap h' → h'.get? a = some o' → IntSet w B (n + 1) o' → Q b { s with heap := h' }) :
    wpAny (model prog w) A (setAddHashed a (.int k tk) (hashInt k)) Q E s := by
  obtain ⟨es, ep, t, rfl, hel, hf, ht, hsz⟩ := id hS
  have hel' : ElemsOf (intKind prog w) es.toList := elems_of hel
  unfold setAddHashed setAddHashedIn
  refine wpAny_holding (wpAny_bind (wpAny_setState_of ho rfl hf ?_))
  dsimp only
  rw [if_pos (byScan_of (knd := intKind prog w) rfl (by omega) hel')]
  unfold setAddByScan
  refine wpAny_bind (wpAny_bind (wpAny_rule (wpAny_bind (wpAny_setScan_of (knd := intKind prog w) (k := k) (intKind_is _ _ _ _) ho rfl hf hel' ?_))))
  have gone : ∀ (b : Bool) {s₁ : Shared} {Q' : Unit → Shared → Prop}, Q' () s₁ → wpAny (model prog w) A (match b with | true => rule "set.scan.the-table-gave-way" | false => pure ()) Q' E s₁ := by
    intro b s₁ Q' q
    cases b
    · exact wpAny_pure q
    · exact wpAny_rule q
  cases List.findIdx? (fun e => (intKind prog w).is k e.2) es.toList with
  | some j => exact wpAny_pure (wpAny_pure (h false s.heap _ (Heap.SameBut.refl ..) ho (intSet_mono hS (Nat.le_succ _))))
  | none =>
    dsimp only
    have p1 := layNew_perm t es (hashInt k) (.int k tk)
    have p2 := layNew_fits t es (hashInt k) (.int k tk)
    have p3 := layNew_led t es (hashInt k) (.int k tk)
    generalize layNew t es (hashInt k) (.int k tk) = lay at p1 p2 p3
    obtain ⟨es1, t1, dum, gave⟩ := lay
    dsimp only at p1 p2 p3 ⊢
    have q1 : ∀ e ∈ es1.toList, ∃ (k : Int) (tk : Tok), e = (hashInt k, .int k tk) ∧ B k := by
      intro e he
      have he' := p1.mem_iff.mp he
      rw [Array.toList_push] at he'
      rcases List.mem_append.mp he' with he' | he'
      · exact hel e he'
      · exact ⟨k, tk, List.mem_singleton.mp he', hk⟩
    have q2 : es1.size = es.size + 1 := by
      have := p1.length_eq
      simpa using this
    have q3 : Told w t1 := by unfold Told at ht ⊢; rw [p3]; exact ht
    refine wpAny_bind (gone _ ?_)
    have tail : ∀ t2 : SetTable, t2.fits es1.size = true → Told w t2 → wpAny (model prog w) A (do
        storeSet a es1 t2
        if (!dum && t2.tooFull) = true then do
            (match (relayAll t2 es1 (SetTable.grown es1.size)).2.2 with | true => rule "set.scan.the-table-gave-way" | false => pure ())
            storeSet a (relayAll t2 es1 (SetTable.grown es1.size)).1 (relayAll t2 es1 (SetTable.grown es1.size)).2.1
            pure (some true)
          else pure (some true)) (fun r s' => wpAny (model prog w) A (match r with | some added => pure added | none => setAddHashedIn a (.int k tk) (hashInt k) 99999) Q E s') E s := by
      intro t2 r1 r2
      refine wpAny_bind (put_there ho rfl (by omega) fun h1 sb1 g1 => ?_)
      split
      · have u1 := relayAll_perm t2 es1 (SetTable.grown es1.size)
        have u2 := relayAll_fits t2 es1 (SetTable.grown es1.size)
        have u3 := relayAll_led t2 es1 (SetTable.grown es1.size)
        generalize relayAll t2 es1 (SetTable.grown es1.size) = rel at u1 u2 u3
        obtain ⟨es2, t3, gave2⟩ := rel
        dsimp only at u1 u2 u3 ⊢
        have v2 : es2.size = es1.size := by simpa using u1.length_eq
        have v1 : ∀ e ∈ es2.toList, ∃ (k : Int) (tk : Tok), e = (hashInt k, .int k tk) ∧ B k := fun e he => q1 e (u1.mem_iff.mp he)
        have v3 : Told w t3 := by unfold Told at r2 ⊢; rw [u3]; exact r2
        refine wpAny_bind (gone _ (wpAny_bind (put_there g1 rfl (by omega) fun h2 sb2 g2 => ?_)))
        exact wpAny_pure (wpAny_pure (h true h2 _ (sb1.trans sb2) g2 ⟨es2, _, t3, rfl, v1, u2, v3, by omega⟩))
      · exact wpAny_pure (wpAny_pure (h true h1 _ sb1 g1 ⟨es1, _, t2, rfl, q1, r1, r2, by omega⟩))
    split
    · rw [hashByValue_scannable 8 rfl]
      refine wpAny_bind (wpAny_pure ?_)
      split
      · exact tail _ p2 q3
      · exact tail _ (SetTable.fits_plain_off p2) q3
    · refine wpAny_bind (wpAny_pure ?_)
      rw [if_pos rfl]
      exact tail _ p2 q3
end
end Mine

namespace Mine

section
variable {prog : Program} {w : World} {A : Around} {E : Value → Shared → Prop} {s : Shared} {B : Int → Prop}

theorem new_set_told (a : Value) {R : Value → Shared → Prop}
    (h : R (.ref s.heap.objs.size) { s with heap := s.heap.push { cls := .type "set", dict := none, data := .set #[] 0 (.fresh 0 0 (!w.params.followText "set-order")) } }) :
    codeAny (model prog w) A (.call (.builtin "set.__new__") ⟨[.type "set", a], []⟩) (wants R E) s := by
  refine codeAny_of_tree ?_
  show wpAny _ A.in1 (do checkBuiltinCall "set.__new__" ⟨[.type "set", a], []⟩; again (.builtin "set.__new__" ⟨[.type "set", a], []⟩)) _ _ s
  refine wpAny_bind (wpAny_of_eq (F.newCall_set_1 a) (wpAny_pure ⟨plainId_quiet F.plain_set_new _, codeAny_builtin F.entry_set_new ?_⟩))
  rw [Around.under_plainId F.plain_set_new _]
  unfold Builtin.«set.__new__» Builtin.Frozenset.newClass
  have hsub := sub_set_self
  obtain ⟨hp, g, d, tk, os⟩ := s
  dsimp only
  wp_walk
  refine wpAny_askSetting (wpAny_pure ?_)
  dsimp only
  simp only [newObj]
  exact wpAny_bind (wpAny_alloc (wpAny_pure (wpAny_pure h)))

/-- the loop that fills: S the set, I the list's iterator -/
theorem fill_loop {l I S : Addr} {items : Array Value} {ns : List Int} {R : Result → Shared → Prop} (hh : A.in1.handled = none) (hlI : l ≠ I) (hSI : S ≠ I) (hSl : S ≠ l)
    (hi : IntsAre items.toList ns) (hB : ∀ k ∈ ns, B k) (hb : items.size + 1 < scanBound) :
    ∀ (k i : Nat) (s : Shared) (o : Obj), items.size - i = k → i ≤ items.size → s.heap.IsListIter I l i → s.heap.IsList l items → s.heap.get? S = some o → IntSet w B i o →
      (∀ h' tk o', h'.get? S = some o' → IntSet w B items.size o' → (∀ b ob, b ≠ S → b ≠ I → s.heap.get? b = some ob → h'.get? b = some ob) → R (.ok (.ret .none)) { s with heap := h', toks := tk }) →
      codeAny (model prog w) A (.builtin "set.update.loop" ⟨[.ref S, .ref I], []⟩) R s := by
  intro k
  induction k with
  | zero =>
    intro i s o hk hi' hit hl hS hset hR
    have hin : i = items.size := by omega
    subst hin
    refine codeAny_builtin F.entry_set_update_loop ?_
    rw [Around.under_plainId F.plain_set_update_loop _]
    show wpAny _ A.in1 (pyNext (.ref I) >>= _) _ _ s
    refine wpAny_bind (wpAny_pyNext_list_end hh hit hl (Array.getElem?_eq_none (Nat.le_refl _)) fun h' he => ?_)
    show wpAny _ A.in1 (ret Value.none) _ _ _
    exact wpAny_pure (hR h' s.toks o (he S o hSI hS) hset fun b ob _ hbI e => he b ob hbI e)
  | succ k ih =>
    intro i s o hk hi' hit hl hS hset hR
    have hlt : i < items.size := by omega
    refine codeAny_builtin F.entry_set_update_loop ?_
    rw [Around.under_plainId F.plain_set_update_loop _]
    show wpAny _ A.in1 (pyNext (.ref I) >>= _) _ _ s
    refine wpAny_bind (wpAny_pyNext_list_item hit hl (Array.getElem?_eq_getElem hlt) fun h1 hit1 sb1 => ?_)
    obtain ⟨t, hv⟩ := IntsAre.int_at hi i items[i] (by rw [Array.getElem?_toList]; exact Array.getElem?_eq_getElem hlt)
    rw [hv]
    have hS1 := sb1.extBut S o hSI hS
    have hl1 := hl.extBut sb1.extBut hlI
    show wpAny _ A.in1 (holding [Value.int (ns.getD i 0) t] (setAdd S (.int (ns.getD i 0) t)) >>= _) _ _ _
    refine wpAny_bind (wpAny_holding ?_)
    unfold setAdd
    refine wpAny_holding (wpAny_bind ((intKind prog w).pyHash (k := ns.getD i 0) (intKind_is _ _ _ _) ?_))
    have hlen : i < ns.length := by rw [← IntsAre.length hi]; simpa using hlt
    have hBi : B (ns.getD i 0) := hB _ (by rw [List.getD_eq_getElem?_getD, List.getElem?_eq_getElem hlen]; exact List.getElem_mem hlen)
    refine add_int (s := { heap := h1, gens := s.gens, drawn := s.drawn, toks := s.toks + 1, os := s.os }) hS1 hset hBi (by omega) fun b h2 o2 sb2 hS2 hset2 => ?_
    refine wpAny_pure ⟨plainId_quiet F.plain_set_update_loop _, ih (i + 1) _ o2 (by omega) hlt (hit1.extBut sb2.extBut (Ne.symm hSI)) (hl1.extBut sb2.extBut (Ne.symm hSl)) hS2 hset2 fun h' tk o' g1 g2 g3 => ?_⟩
    exact hR h' tk o' g1 g2 fun b ob hbS hbI e => g3 b ob hbS hbI (sb2.extBut b ob hbS (sb1.extBut b ob hbI e))

theorem set_of_list {l : Addr} {items : Array Value} {ns : List Int} {Q : Value → Shared → Prop} (hh : A.handled = none) (hl : s.heap.IsList l items) (hi : IntsAre items.toList ns) (hB : ∀ k ∈ ns, B k) (hb : items.size + 1 < scanBound)
    (h : ∀ (h' : Heap) (tk : Nat) (o : Obj), h'.get? s.heap.objs.size = some o → IntSet w B items.size o → (∀ b ob, b < s.heap.objs.size → s.heap.get? b = some ob → h'.get? b = some ob) → Q (.ref s.heap.objs.size) { s with heap := h', toks := tk }) :
    wpAny (model prog w) A (call (.type "set") [.ref l]) Q E s := by
  obtain ⟨c, tl, hmro⟩ := F.called_set.mro
  have hmade := F.called_set.made
  have hsub := F.called_set.sub
  refine wpAny_call (codeAny_of_tree ?_)
  show wpAny _ _ (callAny (.type "set") _) _ _ _
  refine wpAny_pure ⟨Code.quiet_builtin _ (by decide +kernel), codeAny_builtin F.entry_type_call ?_⟩
  rw [Around.under_plain (weight_type_call_type "set" [.ref l] []) rfl]
  have h1 := F.called_set.notType
  have h2 := F.called_set.canCreate
  have hct := F.typeCall_set_1 (.ref l)
  repeat (any_goals (first | assumption | wp_step))
  have hS0 := intSet_new w B
  have hnew := fun (R : Value → Shared → Prop) => new_set_told (prog := prog) (w := w) (A := A.in1) (E := E) (s := s) (.ref l) (R := R)
  generalize (!w.params.followText "set-order") = led at hS0 hnew
  refine codeAny_mono (hnew (fun obj s₁ => obj = .ref s.heap.objs.size ∧ s₁ = { s with heap := s.heap.push { cls := .type "set", dict := none, data := .set #[] 0 (.fresh 0 0 led) } }) ⟨rfl, rfl⟩) fun r s₁ hr => ?_
  cases r with
  | error e => exact hr
  | ok fl =>
    cases fl with
    | ret obj =>
      obtain ⟨rfl, rfl⟩ := hr
      have hS : (s.heap.push { cls := .type "set", dict := none, data := .set #[] 0 (.fresh 0 0 led) }).get? s.heap.objs.size = some { cls := .type "set", dict := none, data := .set #[] 0 (.fresh 0 0 led) } := Heap.get?_push_size _ rfl
      have hT : Shared.TypeIs { s with heap := s.heap.push { cls := .type "set", dict := none, data := .set #[] 0 (.fresh 0 0 led) } } (.ref s.heap.objs.size) "set" := ⟨_, hS, rfl⟩
      have hli := F.called_set.init.lookup
      have hbi := F.called_set.init.bind (.ref s.heap.objs.size)
      repeat (any_goals (first | assumption | wp_step))
      refine codeAny_mono (codeAny_call_builtin (R := wants (fun r s₂ => r = .none ∧ ∃ h' tk o, s₂ = { s with heap := h', toks := tk } ∧ h'.get? s.heap.objs.size = some o ∧ IntSet w B items.size o ∧
          (∀ b ob, b < s.heap.objs.size → s.heap.get? b = some ob → h'.get? b = some ob)) E) F.called_set.init.plain F.entry_set_init (check_set_init_1 hT ?_)) fun r₂ s₂ hr₂ => ?_
      · have hl1 : (s.heap.push { cls := .type "set", dict := none, data := .set #[] 0 (.fresh 0 0 led) }).IsList l items := hl.push _
        obtain ⟨ol, hol, hcl, nl, hdl⟩ := id hl
        have hlS : l < s.heap.objs.size := Heap.lt_size hol
        have hTl : Shared.TypeIs { s with heap := s.heap.push { cls := .type "set", dict := none, data := .set #[] 0 (.fresh 0 0 led) } } (.ref l) "list" := hl1.typeIs
        have hsls := F.sub_list_set
        have hslf := F.sub_list_frozenset
        have hne : (Value.type "list" == Value.type "dict") = false := by decide
        obtain ⟨ocls, odict, odata, oslots⟩ := ol
        simp only at hcl hdl
        subst hcl; subst hdl
        have hol' : (s.heap.push { cls := .type "set", dict := none, data := .set #[] 0 (.fresh 0 0 led) }).get? l = some { cls := .type "list", dict := odict, data := .seq items nl, slots := oslots } := Heap.get?_push_of_some _ hol
        unfold Builtin.«set.__init__» noKeywords Builtin.Frozenset.updateFrom
        generalize hPI : pyIter = PI
        wp_walk
        subst hPI
        refine wpAny_pyIter_list hl1 ?_
        refine wpAny_bind (wpAny_runValue ?_)
        have hsz : (s.heap.push { cls := .type "set", dict := none, data := .set #[] 0 (.fresh 0 0 led) }).objs.size = s.heap.objs.size + 1 := Heap.size_push ..
        have hlI : l ≠ (s.heap.push { cls := .type "set", dict := none, data := .set #[] 0 (.fresh 0 0 led) }).objs.size := by rw [hsz]; exact Nat.ne_of_lt (Nat.lt_succ_of_lt hlS)
        have hSI : s.heap.objs.size ≠ (s.heap.push { cls := .type "set", dict := none, data := .set #[] 0 (.fresh 0 0 led) }).objs.size := by rw [hsz]; exact Nat.ne_of_lt (Nat.lt_succ_self _)
        have hSl : s.heap.objs.size ≠ l := Nat.ne_of_gt hlS
        refine fill_loop (by exact hh) hlI hSI hSl hi hB hb (items.size - 0) 0 _ _ rfl (Nat.zero_le _) ⟨_, Heap.get?_push_size _ rfl, rfl, rfl⟩ (hl1.push _) (Heap.get?_push_of_some _ hS) hS0 fun h' tk o' g1 g2 g3 => ?_
        show wpAny _ _ _ _ _ _
        refine wpAny_pure ?_
        show wpAny _ _ (ret Value.none) _ _ _
        refine wpAny_pure ⟨rfl, h', tk, o', rfl, g1, g2, fun b ob hb e => ?_⟩
        refine g3 b ob (Nat.ne_of_lt hb) ?_ (Heap.get?_push_of_some _ (Heap.get?_push_of_some _ e))
        rw [hsz]; exact Nat.ne_of_lt (Nat.lt_succ_of_lt hb)
      · cases r₂ with
        | error e => exact hr₂
        | ok fl₂ =>
          cases fl₂ with
          | ret r =>
            obtain ⟨rfl, h', tk, o, rfl, g1, g2, g3⟩ := hr₂
            repeat (any_goals (first | assumption | wp_step))
            exact h _ _ _ g1 g2 g3
          | _ => exact hr₂.elim
    | _ => exact hr.elim
end
end Mine

namespace Mine

theorem slot_set_next : Slot "set_iterator" "__next__" "set_iterator.__next__" :=
  .of (owner := "set_iterator") (n := "__next__") (by rw [typeLookup_type, builtinLookup_eq_fast]; kernel_rfl) (by decide +kernel) (by decide +kernel) (by decide +kernel)
    (by first | exact .inl (by decide +kernel) | exact .inr (by decide +kernel)) (by rw [isSubtype_type]; kernel_rfl)
theorem entry_set_next : entryFor table "set_iterator.__next__" = some Builtin.«set_iterator.__next__» := entryFor_of_tree (by kernel_rfl)
theorem args_set_next (a : Value) : argsOk "set_iterator.__next__" ⟨[a], []⟩ := by unfold argsOk; kernel_rfl
theorem entry_set_iter : entryFor table "set.__iter__" = some Builtin.«frozenset.__iter__» :=
  entryFor_alias (id' := "frozenset.__iter__") (by kernel_rfl) rfl (by decide +kernel) (by kernel_rfl)

abbrev setObj (es : Array (Int × Value)) (ep : Nat) (t : SetTable) : Obj := { cls := .type "set", dict := none, data := .set es ep t }
abbrev iterObj (first : Value) (i : Nat) (a : Addr) (n ep : Nat) : Obj := { cls := .type "set_iterator", dict := none, data := .fields #[first, .int i 0, .ref a, .int n 0, .int ep 0] }

def isDrawn (es : Array (Int × Value)) (t : SetTable) : Bool := !t.plain && es.size > 1
/-- what the next is: by the text, or by the places -/
def nxt (w : World) (a : Addr) (es : Array (Int × Value)) (ep : Nat) (t : SetTable) (slot i : Nat) : Option (Value × Nat) :=
  if w.params.followText "set-order" = true then ((pickOrder (w.params.setOrder a ep) es)[i]?).map fun e => (e.2, slot)
  else match es[SetTable.below t.place slot]?, t.place[SetTable.below t.place slot]? with
    | some (_, x), some j => some (x, j + 1)
    | _, _ => none

section
variable {prog : Program} {w : World} {A : Around} {E : Value → Shared → Prop} {s : Shared} {a I : Addr} {es : Array (Int × Value)} {ep : Nat} {t : SetTable}

theorem setNext_of {slot i : Nat} {Q : Option (Value × Nat) → Shared → Prop} (ho : s.heap.get? a = some (setObj es ep t)) (hf : t.fits es.size = true) (ht : Told w t) (hd : w.params.followText "set-order" = true ∨ isDrawn es t = false)
    (h : Q (nxt w a es ep t slot i) s) : wpAny (model prog w) A (setNext a slot i ep) Q E s := by
  unfold nxt at h
  unfold setNext
  refine wpAny_bind (wpAny_setState_of ho rfl hf ?_)
  dsimp only
  unfold setsByText
  refine wpAny_bind (wpAny_bind (wpAny_askSetting (wpAny_pure ?_)))
  show wpAny _ _ (if w.params.followText "set-order" = true then _ else _) _ _ _
  by_cases hb : w.params.followText "set-order" = true
  · rw [if_pos hb] at h ⊢
    rw [bne_self_eq_false, if_neg Bool.false_ne_true]
    unfold setWalk
    refine wpAny_bind (wpAny_bind (wpAny_setState_of ho rfl hf ?_))
    dsimp only
    unfold setsByText
    refine wpAny_bind (wpAny_bind (wpAny_askSetting (wpAny_pure ?_)))
    show wpAny _ _ (if w.params.followText "set-order" = true then _ else _) _ _ _
    rw [if_pos hb]
    exact wpAny_bind (wpAny_askSetting (wpAny_pure (wpAny_pure h)))
  · rw [if_neg hb] at h ⊢
    have hd' : isDrawn es t = false := hd.elim (fun h => absurd h hb) id
    have hl : t.led = true := ht.elim id (fun h => absurd h hb)
    show wpAny _ _ (if isDrawn es t = true then _ else _) _ _ _
    rw [hd', if_neg Bool.false_ne_true]
    show wpAny _ _ ((if (!t.led && !es.isEmpty) = true then _ else _) >>= _) _ _ _
    rw [hl, Bool.not_true, Bool.false_and, if_neg Bool.false_ne_true]
    exact wpAny_bind (wpAny_pure (wpAny_pure h))

theorem next_some {slot i nx : Nat} {x : Value} {Q : Option Value → Shared → Prop} (hI : s.heap.get? I = some (iterObj (.int slot 0) i a es.size ep)) (ho : s.heap.get? a = some (setObj es ep t)) (hf : t.fits es.size = true) (ht : Told w t)
    (hd : w.params.followText "set-order" = true ∨ isDrawn es t = false) (hn : nxt w a es ep t slot i = some (x, nx))
    (hQ : ∀ h', h'.get? I = some (iterObj (.int nx 0) (i + 1) a es.size ep) → Heap.SameBut I s.heap h' → Q (some x) { s with heap := h' }) :
    wpAny (model prog w) A (pyNext (.ref I)) Q E s := by
  have hT : s.TypeIs (.ref I) "set_iterator" := ⟨_, hI, rfl⟩
  unfold pyNext
  refine wpAny_bind (wpAny_attempt (wpAny_callSpecial?_slot (name := Str.ofString "__next__") hT slot_set_next
    (wpAny_call_entry slot_set_next hT entry_set_next ?_ (args_set_next _))))
  unfold Builtin.«set_iterator.__next__»
  refine wpAny_bind (wpAny_pure ?_)
  refine wpAny_bind (wpAny_fieldsOf hI rfl ?_)
  dsimp only
  refine wpAny_bind (wpAny_setEntries_of ho rfl hf ?_)
  rw [bne_self_eq_false, if_neg Bool.false_ne_true]
  simp only [Int.toNat_natCast]
  refine wpAny_bind (setNext_of ho hf ht hd ?_)
  rw [hn]
  dsimp only
  have g1 := Heap.get?_update_self (Obj.mapFields (·.setIfInBounds 0 (rawInt nx))) hI rfl
  have g2 := Heap.get?_update_self (Obj.mapFields (·.setIfInBounds 1 (rawInt ((i : Int) + 1)))) g1 rfl
  refine wpAny_bind (wpAny_setField hI rfl (by simp) ?_)
  refine wpAny_bind (wpAny_setField g1 rfl (by simp [Obj.mapFields]) ?_)
  refine wpAny_pure ⟨_, rfl, wpAny_pure (hQ _ (g2.trans ?_) ((Heap.SameBut.update ..).trans (Heap.SameBut.update ..)))⟩
  simp [Obj.mapFields, rawInt]

theorem next_none {slot i : Nat} {Q : Option Value → Shared → Prop} (hh : A.handled = none) (hI : s.heap.get? I = some (iterObj (.int slot 0) i a es.size ep)) (ho : s.heap.get? a = some (setObj es ep t)) (hf : t.fits es.size = true) (ht : Told w t)
    (hd : w.params.followText "set-order" = true ∨ isDrawn es t = false) (hn : nxt w a es ep t slot i = none)
    (hQ : ∀ h', Heap.ExtBut I s.heap h' → Q none { s with heap := h' }) :
    wpAny (model prog w) A (pyNext (.ref I)) Q E s := by
  have hT : s.TypeIs (.ref I) "set_iterator" := ⟨_, hI, rfl⟩
  unfold pyNext
  refine wpAny_bind (wpAny_attempt (wpAny_callSpecial?_slot (name := Str.ofString "__next__") hT slot_set_next
    (wpAny_call_entry slot_set_next hT entry_set_next ?_ (args_set_next _))))
  unfold Builtin.«set_iterator.__next__»
  refine wpAny_bind (wpAny_pure ?_)
  refine wpAny_bind (wpAny_fieldsOf hI rfl ?_)
  dsimp only
  refine wpAny_bind (wpAny_setEntries_of ho rfl hf ?_)
  rw [bne_self_eq_false, if_neg Bool.false_ne_true]
  simp only [Int.toNat_natCast]
  refine wpAny_bind (setNext_of ho hf ht hd ?_)
  rw [hn]
  dsimp only
  refine wpAny_bind (wpAny_setField hI rfl (by simp) ?_)
  show wpAny _ _ (newExc (.type "StopIteration") [] >>= _) _ _ _
  refine wpAny_bind ?_
  simp only [newExc, newTuple]
  refine wpAny_bind (wpAny_newObj_type ?_ (by size_fits))
  refine wpAny_bind (m := firstArgMember _ _) (wpAny_of_eq (a := Value.none) (by first | rfl | (simp only [firstArgMember]; rfl)) ?_)
  refine wpAny_newObj_type ?_ (by size_fits)
  simp only [raiseNew]
  refine wpAny_bind (wpAny_handled ?_)
  rw [show A.in1.handled = none from hh]
  refine wpAny_bind (wpAny_pure (wpAny_throw ?_))
  refine wpAny_bind (wpAny_isInstance (T := "StopIteration") (b := true) ⟨_, Heap.get?_push_size _ rfl, rfl⟩ isSubtype_stop ?_)
  exact wpAny_pure (hQ _ (((Heap.SameBut.update ..).extBut.push _).push _))

/-- the drawn walk: T the tuple of places -/
theorem draw_some {T : Addr} {places : List Nat} {i p : Nat} {e : Int × Value} {Q : Option Value → Shared → Prop} (hI : s.heap.get? I = some (iterObj (.ref T) i a es.size ep)) (ho : s.heap.get? a = some (setObj es ep t)) (hf : t.fits es.size = true)
    (hT' : s.heap.get? T = some { cls := .type "tuple", data := .seq (places.map fun (j : Nat) => rawInt j).toArray }) (hp : places[i]? = some p) (he : es[p]? = some e)
    (hQ : ∀ h', h'.get? I = some (iterObj (.ref T) (i + 1) a es.size ep) → Heap.SameBut I s.heap h' → Q (some e.2) { s with heap := h' }) :
    wpAny (model prog w) A (pyNext (.ref I)) Q E s := by
  have hT : s.TypeIs (.ref I) "set_iterator" := ⟨_, hI, rfl⟩
  unfold pyNext
  refine wpAny_bind (wpAny_attempt (wpAny_callSpecial?_slot (name := Str.ofString "__next__") hT slot_set_next
    (wpAny_call_entry slot_set_next hT entry_set_next ?_ (args_set_next _))))
  unfold Builtin.«set_iterator.__next__»
  refine wpAny_bind (wpAny_pure ?_)
  refine wpAny_bind (wpAny_fieldsOf hI rfl ?_)
  dsimp only
  refine wpAny_bind (wpAny_setEntries_of ho rfl hf ?_)
  rw [bne_self_eq_false, if_neg Bool.false_ne_true]
  refine wpAny_bind (wpAny_seqItems hT' rfl ?_)
  dsimp only
  simp only [Int.toNat_natCast]
  have hx : (places.map fun (j : Nat) => rawInt j).toArray[i]? = some (rawInt p) := by simp [hp]
  rw [hx]
  show wpAny _ _ (setNextDrawn a ((p : Int).toNat) ep >>= _) _ _ _
  refine wpAny_bind ?_
  rw [Int.toNat_natCast]
  unfold setNextDrawn
  refine wpAny_bind (wpAny_setState_of ho rfl hf ?_)
  dsimp only
  rw [bne_self_eq_false, if_neg Bool.false_ne_true, he]
  refine wpAny_pure ?_
  have g2 := Heap.get?_update_self (Obj.mapFields (·.setIfInBounds 1 (rawInt ((i : Int) + 1)))) hI rfl
  refine wpAny_bind (wpAny_setField hI rfl (by simp) ?_)
  exact wpAny_pure ⟨_, rfl, wpAny_pure (hQ _ (g2.trans (by simp [Obj.mapFields, rawInt])) (Heap.SameBut.update ..))⟩
theorem draw_none {T : Addr} {places : List Nat} {i : Nat} {Q : Option Value → Shared → Prop} (hh : A.handled = none) (hI : s.heap.get? I = some (iterObj (.ref T) i a es.size ep)) (ho : s.heap.get? a = some (setObj es ep t)) (hf : t.fits es.size = true)
    (hT' : s.heap.get? T = some { cls := .type "tuple", data := .seq (places.map fun (j : Nat) => rawInt j).toArray }) (hp : places[i]? = none)
    (hQ : ∀ h', Heap.ExtBut I s.heap h' → Q none { s with heap := h' }) :
    wpAny (model prog w) A (pyNext (.ref I)) Q E s := by
  have hT : s.TypeIs (.ref I) "set_iterator" := ⟨_, hI, rfl⟩
  unfold pyNext
  refine wpAny_bind (wpAny_attempt (wpAny_callSpecial?_slot (name := Str.ofString "__next__") hT slot_set_next
    (wpAny_call_entry slot_set_next hT entry_set_next ?_ (args_set_next _))))
  unfold Builtin.«set_iterator.__next__»
  refine wpAny_bind (wpAny_pure ?_)
  refine wpAny_bind (wpAny_fieldsOf hI rfl ?_)
  dsimp only
  refine wpAny_bind (wpAny_setEntries_of ho rfl hf ?_)
  rw [bne_self_eq_false, if_neg Bool.false_ne_true]
  refine wpAny_bind (wpAny_seqItems hT' rfl ?_)
  dsimp only
  simp only [Int.toNat_natCast]
  have hx : (places.map fun (j : Nat) => rawInt j).toArray[i]? = none := by simpa using hp
  rw [hx]
  have g1 := Heap.get?_update_self (Obj.mapFields (·.setIfInBounds 0 (rawInt 0))) hI rfl
  refine wpAny_bind (wpAny_setField hI rfl (by simp) ?_)
  refine wpAny_bind (wpAny_setField g1 rfl (by simp [Obj.mapFields]) ?_)
  show wpAny _ _ (newExc (.type "StopIteration") [] >>= _) _ _ _
  refine wpAny_bind ?_
  simp only [newExc, newTuple]
  refine wpAny_bind (wpAny_newObj_type ?_ (by size_fits))
  refine wpAny_bind (m := firstArgMember _ _) (wpAny_of_eq (a := Value.none) (by first | rfl | (simp only [firstArgMember]; rfl)) ?_)
  refine wpAny_newObj_type ?_ (by size_fits)
  simp only [raiseNew]
  refine wpAny_bind (wpAny_handled ?_)
  rw [show A.in1.handled = none from hh]
  refine wpAny_bind (wpAny_pure (wpAny_throw ?_))
  refine wpAny_bind (wpAny_isInstance (T := "StopIteration") (b := true) ⟨_, Heap.get?_push_size _ rfl, rfl⟩ isSubtype_stop ?_)
  exact wpAny_pure (hQ _ (((((Heap.SameBut.update ..).trans (Heap.SameBut.update ..))).extBut.push _).push _))
end
end Mine

namespace Mine

theorem slot_set_self : Slot "set_iterator" "__iter__" "set_iterator.__iter__" :=
  .of (owner := "set_iterator") (n := "__iter__") (by rw [typeLookup_type, builtinLookup_eq_fast]; kernel_rfl) (by decide +kernel) (by decide +kernel) (by decide +kernel)
    (by first | exact .inl (by decide +kernel) | exact .inr (by decide +kernel)) (by rw [isSubtype_type]; kernel_rfl)
theorem args_set_self (a : Value) : argsOk "set_iterator.__iter__" ⟨[a], []⟩ := by unfold argsOk; kernel_rfl
theorem entry_set_self : entryFor table "set_iterator.__iter__" = some Builtin.«dict_keyiterator.__iter__» :=
  entryFor_alias (id' := "dict_keyiterator.__iter__") (by kernel_rfl) (by first | rfl | decide +kernel | (unfold String.splitOn; simp +decide [String.splitOnAux])) (by decide +kernel) (by kernel_rfl)

/-! the sequence of places ends -/
theorem below_ge (xs : Array Nat) (j : Nat) : ∀ (fuel lo hi : Nat), hi - lo ≤ fuel → lo ≤ hi → hi ≤ xs.size → (hi < xs.size → j ≤ xs.getD hi 0) → SetTable.below.go xs j fuel lo hi < xs.size → j ≤ xs.getD (SetTable.below.go xs j fuel lo hi) 0
  | 0, lo, hi, h1, h2, h3, h4, h5 => by
    have e : lo = hi := by omega
    subst e
    exact h4 h5
  | fuel + 1, lo, hi, h1, h2, h3, h4, h5 => by
    unfold SetTable.below.go at h5 ⊢
    by_cases hlt : lo < hi
    · rw [if_pos hlt] at h5 ⊢
      dsimp only at h5 ⊢
      by_cases hm : xs.getD ((lo + hi) / 2) j < j
      · rw [if_pos hm] at h5 ⊢
        exact below_ge xs j fuel _ hi (by omega) (by omega) h3 h4 h5
      · rw [if_neg hm] at h5 ⊢
        refine below_ge xs j fuel lo _ (by omega) (by omega) (by omega) (fun hs => ?_) h5
        rw [Array.getD_eq_getD_getElem?, Array.getElem?_eq_getElem hs] at hm ⊢
        exact Nat.not_lt.mp hm
    · rw [if_neg hlt] at h5 ⊢
      have e : lo = hi := by omega
      subst e
      exact h4 h5
theorem below_le {xs : Array Nat} {slot j : Nat} (h : xs[SetTable.below xs slot]? = some j) : slot ≤ j ∧ j ∈ xs.toList := by
  have hs : SetTable.below xs slot < xs.size := by
    rcases Nat.lt_or_ge (SetTable.below xs slot) xs.size with h' | h'
    · exact h'
    · rw [Array.getElem?_eq_none h'] at h; cases h
  have hg := below_ge xs slot xs.size 0 xs.size (by omega) (Nat.zero_le _) (Nat.le_refl _) (fun h => absurd h (Nat.lt_irrefl _)) hs
  have hv : xs.getD (SetTable.below xs slot) 0 = j := by rw [Array.getD_eq_getD_getElem?, h]; rfl
  refine ⟨hv ▸ hg, ?_⟩
  rw [← Array.getElem?_toList] at h
  exact List.mem_of_getElem? h

/-- the slots that a walk goes through -/
def slotAt (f : Nat → Nat → Option (Value × Nat)) : Nat → Nat
  | 0 => 0
  | i + 1 => match f (slotAt f i) i with
    | some (_, j) => j
    | none => slotAt f i

theorem pick_go {α : Type} (f : Nat → Nat) : ∀ (fuel k : Nat) (left : List α) (out : Array α), (∀ x ∈ (pickOrder.go f fuel k left out).toList, x ∈ left ∨ x ∈ out.toList) ∧ (pickOrder.go f fuel k left out).size ≤ out.size + fuel
  | 0, _, _, out => ⟨fun _ h => .inr h, Nat.le_refl _⟩
  | fuel + 1, k, left, out => by
    unfold pickOrder.go
    cases h : left[f k % left.length]? with
    | none => exact ⟨fun _ h => .inr h, Nat.le_add_right ..⟩
    | some x =>
      obtain ⟨i1, i2⟩ := pick_go f fuel (k + 1) (left.eraseIdx (f k % left.length)) (out.push x)
      refine ⟨fun y hy => ?_, by rw [Array.size_push] at i2; dsimp only; omega⟩
      rcases i1 y hy with h' | h'
      · exact .inl (List.mem_of_mem_eraseIdx h')
      · rw [Array.toList_push] at h'
        rcases List.mem_append.mp h' with h' | h'
        · exact .inr h'
        · rw [List.mem_singleton.mp h']; exact .inl (List.mem_of_getElem? h)
theorem pick_mem {α : Type} {f : Nat → Nat} {xs : Array α} : (∀ x ∈ (pickOrder f xs).toList, x ∈ xs.toList) ∧ (pickOrder f xs).size ≤ xs.size := by
  obtain ⟨h1, h2⟩ := pick_go f xs.size 0 xs.toList #[]
  exact ⟨fun x hx => (h1 x hx).elim id (fun h => nomatch h), by unfold pickOrder; simpa using h2⟩

theorem nxt_mem {w : World} {a : Addr} {es : Array (Int × Value)} {ep : Nat} {t : SetTable} {slot i : Nat} {x : Value} {j : Nat} (h : nxt w a es ep t slot i = some (x, j)) : ∃ e ∈ es.toList, e.2 = x := by
  unfold nxt at h
  split at h
  · cases hp : (pickOrder (w.params.setOrder a ep) es)[i]? with
    | none => rw [hp] at h; cases h
    | some e =>
      rw [hp] at h
      have h' := Option.some.inj h
      refine ⟨e, (pick_mem (f := w.params.setOrder a ep)).1 e ?_, congrArg Prod.fst h'⟩
      rw [← Array.getElem?_toList] at hp
      exact List.mem_of_getElem? hp
  · cases h1 : es[SetTable.below t.place slot]? with
    | none => rw [h1] at h; cases h
    | some e =>
      rw [h1] at h
      cases h2 : t.place[SetTable.below t.place slot]? with
      | none => rw [h2] at h; cases h
      | some j' =>
        rw [h2] at h
        obtain ⟨hh, x'⟩ := e
        have h' := Option.some.inj h
        rw [← Array.getElem?_toList] at h1
        exact ⟨_, List.mem_of_getElem? h1, congrArg Prod.fst h'⟩

/-- a sequence whose measure falls ends -/
theorem seq_ends {f : Nat → Nat → Option (Value × Nat)} {μ : Nat → Nat} (hf : ∀ slot i x j, f slot i = some (x, j) → μ j < μ slot) : ∀ (b i : Nat), μ (slotAt f i) ≤ b → ∃ n, n ≤ b ∧ (∀ k, k < n → (f (slotAt f (i + k)) (i + k)).isSome = true) ∧ f (slotAt f (i + n)) (i + n) = none
  | b, i, hb => by
    cases h : f (slotAt f i) i with
    | none => exact ⟨0, Nat.zero_le _, fun k hk => absurd hk (Nat.not_lt_zero _), h⟩
    | some q =>
      obtain ⟨x, j⟩ := q
      have hj := hf _ _ _ _ h
      have e : slotAt f (i + 1) = j := by rw [slotAt, h]
      cases b with
      | zero => omega
      | succ b =>
        obtain ⟨n, h1, h2, h3⟩ := seq_ends hf b (i + 1) (by rw [e]; omega)
        refine ⟨n + 1, by omega, fun k hk => ?_, ?_⟩
        · cases k with
          | zero => rw [Nat.add_zero, h]; rfl
          | succ k => have := h2 k (by omega); rwa [show i + 1 + k = i + (k + 1) by omega] at this
        · rwa [show i + 1 + n = i + (n + 1) by omega] at h3

theorem filter_fall (l : List Nat) {a b j : Nat} (h1 : a ≤ j) (h2 : j < b) (hj : j ∈ l) : (l.filter (fun x => decide (b ≤ x))).length < (l.filter (fun x => decide (a ≤ x))).length := by
  induction l with
  | nil => cases hj
  | cons y l ih =>
    have hle : ∀ l' : List Nat, (l'.filter (fun x => decide (b ≤ x))).length ≤ (l'.filter (fun x => decide (a ≤ x))).length := by
      intro l'
      induction l' with
      | nil => exact Nat.le_refl _
      | cons z l' ih' =>
        simp only [List.filter_cons, decide_eq_true_eq]
        split <;> split <;> (try simp only [List.length_cons]) <;> omega
    rcases List.mem_cons.mp hj with rfl | hj
    · have := hle l
      simp only [List.filter_cons, decide_eq_true_eq]
      rw [if_neg (by omega), if_pos h1, List.length_cons]
      omega
    · have := ih hj
      simp only [List.filter_cons, decide_eq_true_eq]
      split <;> split <;> (try simp only [List.length_cons]) <;> omega

theorem nxt_ends (w : World) (a : Addr) (es : Array (Int × Value)) (ep : Nat) (t : SetTable) (hf : t.fits es.size = true) :
    ∃ n, n ≤ es.size ∧ (∀ k, k < n → (nxt w a es ep t (slotAt (nxt w a es ep t) k) k).isSome = true) ∧ nxt w a es ep t (slotAt (nxt w a es ep t) n) n = none := by
  by_cases hb : w.params.followText "set-order" = true
  · refine ⟨(pickOrder (w.params.setOrder a ep) es).size, pick_mem.2, fun k hk => ?_, ?_⟩
    · unfold nxt; rw [if_pos hb, Array.getElem?_eq_getElem hk]; rfl
    · unfold nxt; rw [if_pos hb, Array.getElem?_eq_none (Nat.le_refl _)]; rfl
  · have hsz : t.place.size = es.size := by
      simp only [SetTable.fits, Bool.and_eq_true, beq_iff_eq] at hf; exact hf.1
    have hfall : ∀ slot i x j, nxt w a es ep t slot i = some (x, j) → (t.place.toList.filter (fun y => decide (j ≤ y))).length < (t.place.toList.filter (fun y => decide (slot ≤ y))).length := by
      intro slot i x j h
      unfold nxt at h
      rw [if_neg hb] at h
      cases h1 : es[SetTable.below t.place slot]? with
      | none => rw [h1] at h; cases h
      | some e =>
        rw [h1] at h
        cases h2 : t.place[SetTable.below t.place slot]? with
        | none => rw [h2] at h; cases h
        | some j' =>
          rw [h2] at h
          obtain ⟨hh, x'⟩ := e
          have h' : j' + 1 = j := congrArg Prod.snd (Option.some.inj h)
          obtain ⟨b1, b2⟩ := below_le h2
          exact filter_fall _ b1 (by omega) b2
    obtain ⟨n, h1, h2, h3⟩ := seq_ends (μ := fun s => (t.place.toList.filter (fun y => decide (s ≤ y))).length) hfall es.size 0 (by
      have := List.length_filter_le (fun y => decide (slotAt (nxt w a es ep t) 0 ≤ y)) t.place.toList
      exact Nat.le_trans this (by rw [Array.length_toList, hsz]; exact Nat.le_refl _))
    simp only [Nat.zero_add] at h2 h3
    exact ⟨n, h1, h2, h3⟩

section
variable {prog : Program} {w : World} {A : Around} {E : Value → Shared → Prop} {s : Shared} {a I : Addr} {es : Array (Int × Value)} {ep : Nat} {t : SetTable}

theorem iter_self {oI : Obj} {Q : Value → Shared → Prop} (hI : s.heap.get? I = some oI) (hc : oI.cls = .type "set_iterator") (h : Q (.ref I) s) : wpAny (model prog w) A (pyIter (.ref I)) Q E s := by
  have hT : s.TypeIs (.ref I) "set_iterator" := ⟨_, hI, hc⟩
  refine wpAny_pyIter_slot hT slot_set_self (wpAny_call_entry slot_set_self hT entry_set_self ?_ (args_set_self _))
  show wpAny _ _ (ret (.ref I)) _ _ s
  exact wpAny_pure ⟨_, rfl, "set_iterator", _, hT, slot_set_next.lookup, h⟩

theorem walks_places (hh : A.handled = none) (hne : a ≠ I) (hf : t.fits es.size = true) (ht : Told w t) (hd : w.params.followText "set-order" = true ∨ isDrawn es t = false) {n : Nat}
    (h1 : ∀ k, k < n → (nxt w a es ep t (slotAt (nxt w a es ep t) k) k).isSome = true) (h2 : nxt w a es ep t (slotAt (nxt w a es ep t) n) n = none) :
    Walks prog w A I [I, a] [I] n (fun _ v => ∃ e ∈ es.toList, e.2 = v) (fun i h => h.get? I = some (iterObj (.int (slotAt (nxt w a es ep t) i) 0) i a es.size ep) ∧ h.get? a = some (setObj es ep t)) where
  sub := fun b hb => by rw [List.mem_singleton.mp hb]; exact .head _
  frame := fun _ _ _ st hk => ⟨hk I (.head _) _ st.1, hk a (.tail _ (.head _)) _ st.2⟩
  item := fun i s Q E hi st hQ => by
    obtain ⟨q, hq⟩ := Option.isSome_iff_exists.mp (h1 i hi)
    obtain ⟨x, j⟩ := q
    refine next_some st.1 st.2 hf ht hd hq fun h' g1 g2 => ?_
    have e : slotAt (nxt w a es ep t) (i + 1) = j := by rw [slotAt, hq]
    exact hQ x h' s.toks (nxt_mem hq) ⟨e.symm ▸ g1, g2.extBut a _ hne st.2⟩ fun b o hb e => g2.extBut b o (fun h => hb (by rw [h]; exact .head _)) e
  done := fun s Q E st hQ => next_none hh st.1 st.2 hf ht hd h2 fun h' he => hQ h' s.toks fun b o hb e => he b o (fun h => hb (by rw [h]; exact .head _)) e
  self := fun i s Q E st hQ => iter_self st.1 rfl hQ

abbrev placeTup (places : List Nat) : Obj := { cls := .type "tuple", data := .seq (places.map fun (j : Nat) => rawInt j).toArray }
theorem walks_drawn (hh : A.handled = none) (hne : a ≠ I) {T : Addr} (hne2 : T ≠ I) (hf : t.fits es.size = true) {places : List Nat} (hp : ∀ p ∈ places, p < es.size) :
    Walks prog w A I [I, a, T] [I] places.length (fun _ v => ∃ e ∈ es.toList, e.2 = v) (fun i h => h.get? I = some (iterObj (.ref T) i a es.size ep) ∧ h.get? a = some (setObj es ep t) ∧ h.get? T = some (placeTup places)) where
  sub := fun b hb => by rw [List.mem_singleton.mp hb]; exact .head _
  frame := fun _ _ _ st hk => ⟨hk I (.head _) _ st.1, hk a (.tail _ (.head _)) _ st.2.1, hk T (.tail _ (.tail _ (.head _))) _ st.2.2⟩
  item := fun i s Q E hi st hQ => by
    have hlt : places[i] < es.size := hp _ (List.getElem_mem hi)
    refine draw_some st.1 st.2.1 hf st.2.2 (List.getElem?_eq_getElem hi) (Array.getElem?_eq_getElem hlt) fun h' g1 g2 => ?_
    refine hQ _ h' s.toks ⟨_, ?_, rfl⟩ ⟨g1, g2.extBut a _ hne st.2.1, g2.extBut T _ hne2 st.2.2⟩ fun b o hb e => g2.extBut b o (fun h => hb (by rw [h]; exact .head _)) e
    exact Array.mem_toList_iff.mpr (Array.getElem_mem hlt)
  done := fun s Q E st hQ => draw_none hh st.1 st.2.1 hf st.2.2 (List.getElem?_eq_none (Nat.le_refl _)) fun h' he => hQ h' s.toks fun b o hb e => he b o (fun h => hb (by rw [h]; exact .head _)) e
  self := fun i s Q E st hQ => iter_self st.1 rfl hQ

theorem choose_any {n : Nat} {Q : Nat → Shared → Prop} (hn : n ≠ 0) (h : ∀ (i : Nat) (d : Drawn), i < n → Q i { s with drawn := d }) : wpAny (model prog w) A (choose .order n) Q E s := fun Γ p _ => by
  unfold choose
  rw [Sem.wp_choose]
  exact ⟨hn, h _ _ (Nat.mod_lt _ (Nat.pos_of_ne_zero hn))⟩

theorem drawOrder_any : ∀ (n : Nat) (xs : List Nat) (s : Shared) (Q : List Nat → Shared → Prop), (∀ (l : List Nat) (d : Drawn), (∀ p ∈ l, p ∈ xs) → l.length ≤ n → Q l { s with drawn := d }) → wpAny (model prog w) A (drawOrder n xs) Q E s
  | 0, xs, s, Q, h => by unfold drawOrder; exact wpAny_pure (h [] s.drawn (fun _ h => nomatch h) (Nat.le_refl _))
  | n + 1, [], s, Q, h => by unfold drawOrder; exact wpAny_pure (h [] s.drawn (fun _ h => nomatch h) (Nat.zero_le _))
  | n + 1, x :: xs, s, Q, h => by
    unfold drawOrder
    refine wpAny_bind (choose_any (Nat.succ_ne_zero _) fun i d hi => ?_)
    rw [List.getElem?_eq_getElem hi]
    dsimp only
    refine wpAny_bind (drawOrder_any n _ _ _ fun l d' h1 h2 => ?_)
    refine wpAny_pure (h _ d' (fun p hp => ?_) (by rw [List.length_cons]; omega))
    rcases List.mem_cons.mp hp with rfl | hp
    · exact List.getElem_mem hi
    · exact List.mem_of_mem_eraseIdx (h1 p hp)

theorem iter_set {Q : Value → Shared → Prop} (ho : s.heap.get? a = some (setObj es ep t)) (hf : t.fits es.size = true) (hz : es.size < scanBound)
    (h1 : (w.params.followText "set-order" = true ∨ isDrawn es t = false) → Q (.ref s.heap.objs.size) { s with heap := s.heap.push (iterObj (.int 0 0) 0 a es.size ep) })
    (h2 : ∀ (places : List Nat) (d : Drawn), (∀ p ∈ places, p < es.size) → places.length ≤ es.size → Q (.ref (s.heap.push (placeTup places)).objs.size) { s with heap := (s.heap.push (placeTup places)).push (iterObj (.ref s.heap.objs.size) 0 a es.size ep), drawn := d }) :
    wpAny (model prog w) A (pyIter (.ref a)) Q E s := by
  have hT : s.TypeIs (.ref a) "set" := ⟨_, ho, rfl⟩
  refine wpAny_pyIter_slot hT F.slot_set_iter (wpAny_call_entry F.slot_set_iter hT entry_set_iter ?_ (F.args_set_iter_1 _))
  unfold Builtin.«frozenset.__iter__» Builtin.Frozenset.slot0 slotArgs
  simp only [List.isEmpty_nil, Bool.not_true, Bool.false_eq_true, ↓reduceIte, bind_assoc, List.length_nil, bne_self_eq_false]
  unfold Builtin.Frozenset.addrOf Builtin.Frozenset.sizeOf
  refine wpAny_bind (wpAny_pure ?_)
  refine wpAny_bind (wpAny_pure ?_)
  refine wpAny_bind (wpAny_bind (wpAny_setEntries_of ho rfl hf (wpAny_pure ?_)))
  refine wpAny_bind (m := setDrawn a) ?_
  unfold setDrawn
  refine wpAny_bind (wpAny_setState_of ho rfl hf ?_)
  dsimp only
  unfold setsByText
  refine wpAny_bind (wpAny_bind (wpAny_askSetting (wpAny_pure ?_)))
  refine wpAny_pure ?_
  show wpAny _ _ (if (!w.params.followText "set-order" && isDrawn es t) = true then _ else _) _ _ _
  by_cases hc : (!w.params.followText "set-order" && isDrawn es t) = true
  · rw [if_pos hc]
    refine wpAny_bind (drawOrder_any _ _ _ _ fun l d g1 g2 => ?_)
    refine wpAny_bind (wpAny_newTuple ?_ (hsz := by rw [List.length_map]; exact Nat.le_trans g2 (fits_of_scanBound hz)))
    refine wpAny_bind ?_
    unfold setEpoch
    refine wpAny_bind (wpAny_setState_of (Heap.get?_push_of_some _ ho) rfl hf (wpAny_pure ?_))
    refine wpAny_bind (wpAny_newObj_type (wpAny_pure ⟨_, rfl, "set_iterator", _, ⟨_, Heap.get?_push_size _ rfl, rfl⟩, slot_set_next.lookup, ?_⟩))
    exact h2 l d (fun p hp => List.mem_range.mp (g1 p hp)) g2
  · rw [if_neg hc]
    refine wpAny_bind (wpAny_pure ?_)
    refine wpAny_bind ?_
    unfold setEpoch
    refine wpAny_bind (wpAny_setState_of ho rfl hf (wpAny_pure ?_))
    refine wpAny_bind (wpAny_newObj_type (wpAny_pure ⟨_, rfl, "set_iterator", _, ⟨_, Heap.get?_push_size _ rfl, rfl⟩, slot_set_next.lookup, ?_⟩))
    refine h1 ?_
    cases hw : w.params.followText "set-order" with
    | true => exact .inl rfl
    | false =>
      rw [hw] at hc
      exact .inr (by simpa using hc)
end
end Mine

namespace Mine

/-- an int within B -/
def GoodV (B : Int → Prop) (v : Value) : Prop := ∃ (k : Int) (tk : Tok), v = .int k tk ∧ B k
theorem good_ints {B : Int → Prop} : ∀ {vs : List Value}, (∀ v ∈ vs, GoodV B v) → ∃ ns, IntsAre vs ns ∧ ∀ k ∈ ns, B k
  | [], _ => ⟨[], .nil, fun _ h => nomatch h⟩
  | v :: vs, h => by
    obtain ⟨k, tk, rfl, hk⟩ := h v (.head _)
    obtain ⟨ns, h1, h2⟩ := good_ints fun v hv => h v (.tail _ hv)
    exact ⟨k :: ns, .cons k tk h1, List.forall_mem_cons.mpr ⟨hk, h2⟩⟩

section
variable {prog : Program} {w : World} {A : Around} {E : Value → Shared → Prop} {s : Shared} {a : Addr} {B : Int → Prop} {n : Nat}

/-- any walk of a set's ints fills a new list -/
theorem extend_any {I S : Addr} {fp : List Addr} {m : Nat} {P : Nat → Value → Prop} {St : Nat → Heap → Prop} {R : Result → Shared → Prop} (W : Walks prog w A.in1 I fp [I] m P St) (hm : m < scanBound) (hSf : S ∉ fp)
    (hst : St 0 s.heap) (hS : s.heap.get? S = some { cls := .type "list", dict := none, data := .seq #[] n, slots := #[] }) (res : Value)
    (hR : ∀ (h' : Heap) (tk : Nat) (acc : Array Value) (c : Nat), acc.size = m → (∀ v ∈ acc.toList, ∃ i, P i v) → h'.get? S = some { cls := .type "list", dict := none, data := .seq acc c, slots := #[] } → (∀ b o, b ≠ S → b ≠ I → s.heap.get? b = some o → h'.get? b = some o) →
      R (.ok (.ret res)) { s with heap := h', toks := tk }) :
    codeAny (model prog w) A (.builtin "list.extend.loop" ⟨[.ref S, .ref I, res], []⟩) R s := by
  refine codeAny_extend_loopS W.toS (fits_of_scanBound hm) S hSf res m 0 s #[] n rfl (Nat.zero_le _) hst hS (ItemsOf.nil P) fun s' acc c hmv hS' hacc => ?_
  obtain ⟨h', g', d', tk', os'⟩ := s'
  have eg : g' = s.gens := hmv.gens
  have ed : d' = s.drawn := hmv.drawn
  have eo : os' = s.os := hmv.os
  subst eg; subst ed; subst eo
  refine hR h' tk' acc c hacc.1 (fun v hv => ?_) hS' fun b o hb hbI e => hmv.heap b o (by simp only [List.mem_cons, List.not_mem_nil, or_false, not_or]; exact ⟨hb, hbI⟩) e
  obtain ⟨i, hi, e⟩ := List.getElem_of_mem hv
  exact ⟨i, hacc.2 i v (by rw [← Array.getElem?_toList, List.getElem?_eq_getElem hi, e])⟩

theorem hint_set {o : Obj} {Q : Bool → Shared → Prop} (ho : s.heap.get? a = some o) (hc : o.cls = .type "set") (h : Q false s) : wpAny (model prog w) A (Builtin.List.listLengthHint (.ref a)) Q E s := by
  unfold Builtin.List.listLengthHint
  refine wpAny_bind (wpAny_specialOf ⟨_, ho, hc⟩ F.slot_set_len.lookup ?_)
  generalize hid : ("set.__len__" : String) = id0
  wp_delta
  rw [show splitId id0 = some ("set", "__len__") from by subst hid; decide +kernel]
  subst hid
  refine wpAny_bind (wpAny_isInstance (T := "set") (b := true) ⟨_, ho, hc⟩ (by rw [isSubtype_type]; kernel_rfl) ?_)
  refine wpAny_ite_split (fun hab => absurd hab (by decide)) (fun _ => ?_)
  refine wpAny_ite_split (fun _ => ?_) (fun hab => absurd (by decide +kernel) hab)
  exact wpAny_bind (wpAny_typeOf (T := "set") ⟨_, ho, hc⟩ (wpAny_pure h))

theorem collect_set {o : Obj} {Q : List Value → Shared → Prop} (hh : A.handled = none) (ho : s.heap.get? a = some o) (hS : IntSet w B n o) (hn : n < scanBound)
    (h : ∀ (vs : List Value) (h' : Heap) (d : Drawn) (tk : Nat), (∀ v ∈ vs, GoodV B v) → vs.length ≤ n → (∀ b ob, s.heap.get? b = some ob → h'.get? b = some ob) → s.heap.objs.size ≤ h'.objs.size → Q vs { s with heap := h', drawn := d, toks := tk }) :
    wpAny (model prog w) A (collect (.ref a)) Q E s := by
  obtain ⟨es, ep, t, rfl, hel, hf, ht, hsz⟩ := hS
  have hz : es.size < scanBound := Nat.lt_of_le_of_lt hsz hn
  have ha : @LT.lt Nat _ a s.heap.objs.size := Heap.lt_size ho
  have hgood : ∀ v, (∃ e ∈ es.toList, e.2 = v) → GoodV B v := by
    rintro v ⟨e, he, rfl⟩
    obtain ⟨k, tk, rfl, hk⟩ := hel e he
    exact ⟨k, tk, rfl, hk⟩
  unfold collect
  refine wpAny_bind (wpAny_runValue (codeAny_builtin F.entry_proto_collect ?_))
  rw [Around.under_plainId F.plain_proto_collect _]
  show wpAny _ A.in1 (newList [] >>= fun l => again (.builtin "list.__iadd__" ⟨[l, .ref a], []⟩)) _ _ s
  refine wpAny_bind (wpAny_newObj_type ?_)
  refine wpAny_pure ⟨plainId_quiet F.plain_list_iadd _, codeAny_builtin F.entry_list_iadd ?_⟩
  rw [Around.under_plainId F.plain_list_iadd _]
  have hszl : (s.heap.push { cls := .type "list", data := .seq ([] : List Value).toArray }).objs.size = s.heap.objs.size + 1 := Heap.size_push ..
  have ho1 : (s.heap.push { cls := .type "list", data := .seq ([] : List Value).toArray }).get? a = some (setObj es ep t) := Heap.get?_push_of_some _ ho
  have hS1 : (s.heap.push { cls := .type "list", data := .seq ([] : List Value).toArray }).get? s.heap.objs.size = some { cls := .type "list", data := .seq ([] : List Value).toArray } := Heap.get?_push_size _ rfl
  have hk1 : ∀ b ob, s.heap.get? b = some ob → (s.heap.push { cls := .type "list", data := .seq ([] : List Value).toArray }).get? b = some ob := fun b ob e => Heap.get?_push_of_some _ e
  show wpAny _ A.in1 (Builtin.List.listExtendWith (.ref s.heap.objs.size) (.ref a) (.ref s.heap.objs.size)) _ _ { s with heap := s.heap.push { cls := .type "list", data := .seq ([] : List Value).toArray } }
  generalize s.heap.push { cls := .type "list", data := .seq ([] : List Value).toArray } = H1 at hszl ho1 hS1 hk1
  unfold Builtin.List.listExtendWith
  refine wpAny_bind (wpAny_typeOf (T := "set") ⟨_, ho1, rfl⟩ ?_)
  have h1 : Builtin.List.listSameRef (.ref s.heap.objs.size) (.ref a) = false := by
    show (s.heap.objs.size == a) = false
    exact beq_eq_false_iff_ne.mpr (Nat.ne_of_gt ha)
  rw [if_neg (by rw [h1]; decide)]
  refine wpAny_bind (wpAny_mono (Q := fun it s' => ∃ (I : Addr) (fp : List Addr) (m : Nat) (St : Nat → Heap → Prop) (H2 : Heap) (d : Drawn), it = .ref I ∧ s' = { s with heap := H2, drawn := d } ∧
      Walks prog w A.in1 I fp [I] m (fun _ v => ∃ e ∈ es.toList, e.2 = v) St ∧ m ≤ es.size ∧ St 0 H2 ∧ s.heap.objs.size ∉ fp ∧ I ≠ s.heap.objs.size ∧ s.heap.get? I = none ∧ (∀ b ob, H1.get? b = some ob → H2.get? b = some ob))
      (iter_set ho1 hf hz (fun hd => ?_) (fun places d g1 g2 => ?_)) ?_ fun _ _ e => e)
  · obtain ⟨m, m1, m2, m3⟩ := nxt_ends w a es ep t hf
    have hne : @Ne Nat a H1.objs.size := by rw [hszl]; omega
    refine ⟨_, _, m, _, _, s.drawn, rfl, rfl, walks_places (A := A.in1) hh hne hf ht hd m2 m3, m1, ⟨Heap.get?_push_size _ rfl, Heap.get?_push_of_some _ ho1⟩, ?_, ?_, ?_, fun b ob e => Heap.get?_push_of_some _ e⟩
    · simp only [List.mem_cons, List.not_mem_nil, or_false, not_or]
      exact ⟨by rw [hszl]; exact Nat.ne_of_lt (Nat.lt_succ_self _), Nat.ne_of_gt ha⟩
    · rw [hszl]; exact Nat.ne_of_gt (Nat.lt_succ_self _)
    · cases e : s.heap.get? H1.objs.size with
      | none => rfl
      | some ob => exact absurd (Heap.lt_size e) (by rw [hszl]; exact Nat.not_lt.mpr (Nat.le_succ _))
  · have hsz2 : (H1.push (placeTup places)).objs.size = s.heap.objs.size + 1 + 1 := by rw [Heap.size_push, hszl]
    have hne : @Ne Nat a (H1.push (placeTup places)).objs.size := by rw [hsz2]; omega
    have hne2 : @Ne Nat H1.objs.size (H1.push (placeTup places)).objs.size := by rw [hsz2, hszl]; omega
    refine ⟨_, _, places.length, _, _, d, rfl, rfl, walks_drawn (A := A.in1) (ep := ep) hh hne hne2 hf g1, g2, ⟨Heap.get?_push_size _ rfl, Heap.get?_push_of_some _ (Heap.get?_push_of_some _ ho1), Heap.get?_push_of_some _ (Heap.get?_push_size _ rfl)⟩, ?_, ?_, ?_, fun b ob e => Heap.get?_push_of_some _ (Heap.get?_push_of_some _ e)⟩
    · simp only [List.mem_cons, List.not_mem_nil, or_false, not_or]
      exact ⟨by rw [hsz2]; exact Nat.ne_of_lt (by omega), Nat.ne_of_gt ha, by rw [hszl]; exact Nat.ne_of_lt (Nat.lt_succ_self _)⟩
    · rw [hsz2]; exact Nat.ne_of_gt (by omega)
    · cases e : s.heap.get? (H1.push (placeTup places)).objs.size with
      | none => rfl
      | some ob => exact absurd (Heap.lt_size e) (by rw [hsz2]; exact Nat.not_lt.mpr (Nat.le_succ_of_le (Nat.le_succ _)))
  · rintro it s' ⟨I, fp, m, St, H2, d, rfl, rfl, W, hm, hst, hfp, hIS, hIn, hk2⟩
    have ho2 := hk2 _ _ ho1
    have hS2 := hk2 _ _ hS1
    refine wpAny_bind (wpAny_holding (hint_set ho2 rfl ?_))
    rw [if_pos (by decide)]
    refine wpAny_bind (wpAny_rule ?_)
    refine wpAny_bind ?_
    show wpAny _ A.in1 (updateSeq s.heap.objs.size (·.push .none) >>= fun _ => updateSeq s.heap.objs.size (·.pop)) _ _ _
    refine wpAny_bind (wpAny_updateSeq hS2 rfl ?_)
    have hS3 := Heap.get?_update_self (Obj.mapSeq (·.push Value.none)) hS2 rfl
    refine wpAny_updateSeq hS3 rfl ?_
    have hS4 := Heap.get?_update_self (Obj.mapSeq (·.pop)) hS3 rfl
    have oth : ∀ b ob, b ≠ s.heap.objs.size → H2.get? b = some ob →
        ((H2.update s.heap.objs.size (Obj.mapSeq (·.push Value.none))).update s.heap.objs.size (Obj.mapSeq (·.pop))).get? b = some ob :=
      fun b ob hb e => (Heap.get?_update_other _ _ (Ne.symm hb)).trans ((Heap.get?_update_other _ _ (Ne.symm hb)).trans e)
    refine wpAny_pure ⟨plainId_quiet F.plain_extend_loop _, extend_any W (Nat.lt_of_le_of_lt hm hz) hfp (W.frame 0 H2 _ hst fun b hb ob e => oth b ob (fun h => hfp (h ▸ hb)) e) hS4 _ fun h' tk acc c c1 c2 c3 c4 => ?_⟩
    show wpAny _ A (load s.heap.objs.size >>= _) _ _ _
    refine wpAny_bind (wpAny_load c3 ?_)
    refine wpAny_pure (h acc.toList h' d tk (fun v hv => hgood v (let ⟨_, e⟩ := c2 v hv; e)) (by rw [Array.length_toList, c1]; omega) (fun b ob e => ?_) (Nat.le_of_lt (Heap.lt_size c3)))
    have hb : b < s.heap.objs.size := Heap.lt_size e
    refine c4 b ob (Nat.ne_of_lt hb) (fun hbI => ?_) (oth b ob (Nat.ne_of_lt hb) (hk2 b ob (hk1 b ob e)))
    rw [hbI, hIn] at e; cases e

theorem sorted_set {h₀ : Heap} {L : Addr} {m : Str → Option Value} {news : List (Addr × Obj)} {o : Obj} {Q : Value → Shared → Prop} (hh : A.handled = none) (F : Fr h₀ L s.heap m) (N : News h₀ L s.heap news) (ho : s.heap.get? a = some o) (hS : IntSet w B n o) (hn : n < 64)
    (h : ∀ (D : Addr) (vs : List Value) (ns : List Int) (e : Nat) (h' : Heap) (d : Drawn) (tk : Nat), Fr h₀ L h' m → News h₀ L h' ((D, W.listOf vs.toArray e) :: news) → (∀ q ∈ news, q.1 < D) → IntsAre vs ns → ns.Pairwise (· ≤ ·) → (∀ k ∈ ns, B k) → ns.length ≤ n →
      Q (.ref D) { s with heap := h', drawn := d, toks := tk }) :
    wpAny (model prog w) A (call (.builtin "sorted") [.ref a]) Q E s := by
  refine Calls.call_function_entry kind_sorted plain_sorted entry_sorted (args_sorted1 _) ?_
  unfold Builtin.«sorted»
  refine wpAny_bind (m := checkCount "sorted" 1 1 _) (wpAny_pure ?_)
  refine wpAny_bind (collect_set (by exact hh) ho hS (Nat.lt_trans hn (by decide)) fun vs h1 d tk g1 g2 g3 hle => ?_)
  obtain ⟨ns, i1, i2⟩ := good_ints g1
  refine wpAny_bind (wpAny_newList ?_ (by rw [sizeLine_eq]; omega))
  have hoL : (h1.push (seqObj "list" vs.toArray 0)).get? h1.objs.size = some (seqObj "list" vs.toArray 0) := Heap.get?_push_size _ rfl
  refine wpAny_bind (wpAny_holding (wpAny_call_entry slot_list_sort ⟨_, hoL, rfl⟩ entry_list_sort (list_sort_tree hoL i1 (by omega) fun out ns' a1 a2 a3 => ⟨_, rfl, ?_⟩) (args_list_sort _)))
  obtain ⟨e, he⟩ := sortedHeap_at (out := out) hoL
  have keep : ∀ b ob, s.heap.get? b = some ob → (sortedHeap (h1.push (seqObj "list" vs.toArray 0)) h1.objs.size vs out).get? b = some ob := by
    intro b ob hb
    have hb1 := g3 b ob hb
    have hlt : @LT.lt Nat _ b h1.objs.size := Heap.lt_size hb1
    rw [sortedHeap_old (Nat.ne_of_lt hlt) (by rw [size_push']; exact Nat.lt_succ_of_lt hlt)]
    exact Heap.get?_push_of_some _ hb1
  refine wpAny_pure ⟨_, rfl, h h1.objs.size out.toList ns' e _ d tk (F.kept keep) (N.kept_cons F keep hle he) (fun q hq => ?_) a1 a3 (fun k hk => i2 k (a2.mem_iff.mp hk)) ?_⟩
  · exact Nat.lt_of_lt_of_le (Heap.lt_size (N q hq).1) hle
  · rw [a2.length_eq, ← IntsAre.length i1]; exact g2

theorem set_N {h₀ : Heap} {L l : Addr} {m : Str → Option Value} {news : List (Addr × Obj)} {vs : List Value} {ns : List Int} {c : Nat} {Q : Value → Shared → Prop} (hh : A.handled = none) (F : Fr h₀ L s.heap m) (N : News h₀ L s.heap news) (hm : (l, W.listOf vs.toArray c) ∈ news) (hi : IntsAre vs ns) (hB : ∀ k ∈ ns, B k) (hb : vs.length + 1 < scanBound)
    (h : ∀ (S : Addr) (o : Obj) (h' : Heap) (tk : Nat), Fr h₀ L h' m → News h₀ L h' ((S, o) :: news) → (∀ q ∈ news, q.1 < S) → IntSet w B vs.length o → Q (.ref S) { s with heap := h', toks := tk }) :
    wpAny (model prog w) A (call (.type "set") [.ref l]) Q E s := by
  refine set_of_list (items := vs.toArray) hh ⟨_, (N _ hm).1, rfl, _, rfl⟩ hi hB (by simpa using hb) fun h' tk o g1 g2 g3 => ?_
  rw [List.size_toArray] at g2
  have keep : ∀ b ob, s.heap.get? b = some ob → h'.get? b = some ob := fun b ob e => g3 b ob (Heap.lt_size e) e
  exact h _ o h' tk (F.kept keep) (N.kept_cons F keep (Nat.le_refl _) g1) (fun q hq => Heap.lt_size (N q hq).1) g2
end
end Mine

namespace Mine

/-! the cuts, one behind the other -/
theorem cut_between {cs : List Int} {len : Nat} (ho : cs.Pairwise (· ≤ ·)) (hb : ∀ k ∈ cs, 0 ≤ k ∧ k ≤ (len : Int)) {i : Nat} (hi : i < (cs ++ [(len : Int)]).length) :
    0 ≤ (0 :: (cs ++ [(len : Int)])).getD i 0 ∧ (0 :: (cs ++ [(len : Int)])).getD i 0 ≤ (cs ++ [(len : Int)]).getD i 0 ∧ (cs ++ [(len : Int)]).getD i 0 ≤ len := by
  have hb' : ∀ k ∈ cs ++ [(len : Int)], 0 ≤ k ∧ k ≤ (len : Int) := by
    intro k hk
    rcases List.mem_append.mp hk with hk | hk
    · exact hb k hk
    · rw [List.mem_singleton.mp hk]; omega
  have ho' : (cs ++ [(len : Int)]).Pairwise (· ≤ ·) := by
    rw [List.pairwise_append]
    refine ⟨ho, List.pairwise_singleton .., fun a ha b hb'' => ?_⟩
    rw [List.mem_singleton.mp hb'']
    exact (hb a ha).2
  generalize cs ++ [(len : Int)] = l at hi hb' ho'
  have e1 : l.getD i 0 = l[i] := by rw [List.getD_eq_getElem?_getD, List.getElem?_eq_getElem hi]; rfl
  have m1 := hb' _ (List.getElem_mem hi)
  rw [e1]
  cases i with
  | zero => exact ⟨Int.le_refl _, m1.1, m1.2⟩
  | succ i =>
    have hi' : i < l.length := by omega
    have e2 : (0 :: l).getD (i + 1) 0 = l[i] := by rw [List.getD_cons_succ, List.getD_eq_getElem?_getD, List.getElem?_eq_getElem hi']; rfl
    rw [e2]
    exact ⟨(hb' _ (List.getElem_mem hi')).1, List.pairwise_iff_getElem.mp ho' i (i + 1) hi' hi (Nat.lt_succ_self _), m1.2⟩
theorem cut_last {cs : List Int} {len : Nat} : (0 :: (cs ++ [(len : Int)])).getD (cs ++ [(len : Int)]).length 0 = len := by
  rw [List.length_append, List.length_singleton, List.getD_cons_succ, List.getD_eq_getElem?_getD, List.getElem?_append_right (Nat.le_refl _), Nat.sub_self]; rfl

/-- behind an end nothing moves -/
theorem loop_idle {sp : List (Str × List Int)} {tail : List Int} {found : List (Str × List Int)} {held : List Int} {b c : Nat} {d0 : List (Str × List Int)} {e : Str × List Int} (hf : found = d0 ++ [e]) (he : e.1 = Str.ofString "end") (h : LoopInv sp tail found held b) : LoopInv sp tail found held c := by
  cases h with
  | ended h d0 e h1 he => exact .ended h d0 e h1 he
  | going pend h hcm hp hh hst =>
    have := cmd_kind (hcm e (by rw [hf]; exact List.mem_append.mpr (.inr (.head _))))
    exact absurd he this.1
theorem loop_len {sp : List (Str × List Int)} {tail : List Int} {found : List (Str × List Int)} {held : List Int} {b : Nat} (hs : Script sp tail) (h : LoopInv sp tail found held b) : found.length ≤ 5 := by
  obtain ⟨-, hl⟩ := script_pend hs
  cases h with
  | ended h _ _ _ _ => rw [h]; exact hl
  | going pend h _ _ _ _ => rw [h, List.length_append] at hl; omega
theorem loop_held {sp : List (Str × List Int)} {tail : List Int} {found : List (Str × List Int)} {held : List Int} {b : Nat} (hs : Script sp tail) (hg : ∀ d0 e, found = d0 ++ [e] → e.1 ≠ Str.ofString "end") (h : LoopInv sp tail found held b) : held.length ≤ 1000 := by
  have hl := script_len hs
  cases h with
  | ended h d0 e h1 he => exact absurd (end_kind he).1 (hg d0 e h1)
  | going pend h hcm hp hh hst =>
    have := congrArg List.length hh
    rw [List.length_append, List.length_take] at this
    omega

/-- the turn's outcome, in plain words: what is found now, whether an end is asked for behind a head -/
def TurnOk (sp : List (Str × List Int)) (tail : List Int) (found st : List (Str × List Int)) (held' : List Int) (c : Nat) : Prop :=
  ∃ dn, LoopInv sp tail (found ++ dn) held' c ∧ (∀ x ∈ dn, x.1 ≠ Str.ofString "ask") ∧ (st = dn ∨ (st = dn ++ [(Str.ofString "ask", [])] ∧ behind ((cat sp ++ tail).take c)))

theorem turn_filter {sp : List (Str × List Int)} {tail : List Int} {found st : List (Str × List Int)} {held' : List Int} {c : Nat} (h : TurnOk sp tail found st held' c) :
    LoopInv sp tail (found ++ st.filter (fun x => x.1 != Str.ofString "ask")) held' c ∧ st.dropLast.filter (fun x => x.1 == Str.ofString "ask") = [] ∧
      (st.drop (st.length - 1) = [(Str.ofString "ask", [])] → behind ((cat sp ++ tail).take c)) := by
  obtain ⟨dn, h1, h2, h3⟩ := h
  have f1 : dn.filter (fun x => x.1 != Str.ofString "ask") = dn := List.filter_eq_self.mpr fun x hx => bne_iff_ne.mpr (h2 x hx)
  rcases h3 with rfl | ⟨rfl, h3⟩
  · refine ⟨by rw [f1]; exact h1, ?_, fun hl => ?_⟩
    · rw [List.filter_eq_nil_iff]
      intro x hx
      rw [beq_iff_eq]
      exact h2 x (List.mem_of_mem_take (by rwa [List.dropLast_eq_take] at hx))
    · have : (Str.ofString "ask", []) ∈ st := List.mem_of_mem_drop (by rw [hl]; exact .head _)
      exact absurd rfl (h2 _ this)
  · refine ⟨?_, ?_, fun _ => h3⟩
    · rw [List.filter_append, f1]
      have : ([(Str.ofString "ask", [])] : List (Str × List Int)).filter (fun x => x.1 != Str.ofString "ask") = [] := by simp
      rw [this, List.append_nil]; exact h1
    · rw [List.dropLast_concat, List.filter_eq_nil_iff]
      intro x hx
      rw [beq_iff_eq]
      exact h2 x hx

/-- the slices of a list -/
theorem pick_but_last (vs : List Value) : (slicePick vs.toArray none (some (-1)) none).toList = vs.dropLast := by
  have e : sliceBounds none (some (-1)) none vs.toArray.size = (((0 : Nat) : Int), ((vs.toArray.size - 1 : Nat) : Int), 1) := by
    simp only [sliceBounds, Option.getD_none, show (1 : Int) > 0 by decide, if_true]
    congr 1
    congr 1
    rw [if_pos (by decide)]
    omega
  rw [kmk_pick_nat _ e]
  simp [List.dropLast_eq_take]
theorem pick_last (vs : List Value) : (slicePick vs.toArray (some (-1)) none none).toList = vs.drop (vs.length - 1) := by
  have e : sliceBounds (some (-1)) none none vs.toArray.size = (((vs.toArray.size - 1 : Nat) : Int), ((vs.toArray.size : Nat) : Int), 1) := by
    simp only [sliceBounds, Option.getD_none, show (1 : Int) > 0 by decide, if_true]
    congr 1
    rw [if_pos (by decide)]
    omega
  rw [kmk_pick_nat _ e]
  show (vs.drop (vs.toArray.size - 1)).take (vs.toArray.size - (vs.toArray.size - 1)) = _
  rw [List.size_toArray, List.take_of_length_le (by rw [List.length_drop]; omega)]

theorem StepsIn.drop {ts : List (Addr × Obj)} {vs : List Value} {sp : List (Str × List Int)} (h : StepsIn ts vs sp) : ∀ n, StepsIn ts (vs.drop n) (sp.drop n) := by
  induction h with
  | nil => intro n; rw [List.drop_nil, List.drop_nil]; exact .nil
  | cons hm hb ht ih =>
    intro n
    cases n with
    | zero => exact .cons hm hb ht
    | succ n => exact ih n
theorem StepsIn.take {ts : List (Addr × Obj)} {vs : List Value} {sp : List (Str × List Int)} (h : StepsIn ts vs sp) : ∀ n, StepsIn ts (vs.take n) (sp.take n) := by
  induction h with
  | nil => intro n; rw [List.take_nil, List.take_nil]; exact .nil
  | cons hm hb ht ih =>
    intro n
    cases n with
    | zero => exact .nil
    | succ n => exact .cons hm hb (ih n)
theorem StepsIn.dropLast {ts : List (Addr × Obj)} {vs : List Value} {sp : List (Str × List Int)} (h : StepsIn ts vs sp) : StepsIn ts vs.dropLast sp.dropLast := by
  rw [List.dropLast_eq_take, List.dropLast_eq_take, h.len]
  exact h.take _

/-- between the cuts, in the heap -/
structure LawP (w : World) (sp : List (Str × List Int)) (tail : List Int) (cs : List Int) (x dx : Addr) (rest : List (Addr × Obj)) (m₀ : Str → Option Value) (i : Nat) (m : Str → Option Value) (nx : List (Addr × Obj)) : Prop where
  ex : ∃ (FA : Addr) (fvs : List Value) (nF : Nat) (fts : List (Addr × Obj)) (found : List (Str × List Int)) (held : Array UInt8) (t1 t2 tb ta tg : Tok) (asked : Int) (u : Str → Option Value),
    nx = (FA, W.listOf fvs.toArray nF) :: (x, instObj 101 dx) :: (dx, cutObj w t1 t2 tb ta held asked) :: (fts ++ rest) ∧
    m = (fun y => if y = Str.ofString "found" then some (Value.ref FA) else if y = Str.ofString "begin" then some (Value.int ((0 :: cs).getD i 0) tg) else if [Str.ofString "cut", Str.ofString "steps", Str.ofString "is_behind_head"].contains y then u y else m₀ y) ∧
    StepsIn fts fvs found ∧ LoopInv sp tail found (KBw.bInts held) ((0 :: cs).getD i 0).toNat ∧ x < FA ∧ dx < FA ∧ (∀ p ∈ fts, x < p.1 ∧ dx < p.1)

theorem LawP_init {w : World} {sp : List (Str × List Int)} {tail cs : List Int} {x dx FA : Addr} {rest : List (Addr × Obj)} {m₀ : Str → Option Value} {nF : Nat} {t1 t2 tb ta tg : Tok} {asked : Int} (hs : Script sp tail)
    (h1 : m₀ (Str.ofString "found") = some (Value.ref FA)) (h2 : m₀ (Str.ofString "begin") = some (Value.int 0 tg)) (hx : x < FA) (hd : dx < FA) :
    LawP w sp tail cs x dx rest m₀ 0 m₀ ((FA, W.listOf #[] nF) :: (x, instObj 101 dx) :: (dx, cutObj w t1 t2 tb ta #[] asked) :: rest) :=
  ⟨FA, [], nF, [], [], #[], t1, t2, tb, ta, tg, asked, m₀, rfl, fr_eq2 h1 h2 (fun _ _ _ _ => rfl), .nil, loop_init hs, hx, hd, fun _ h => nomatch h⟩
end Mine

namespace Mine

theorem loop_ledger {g h : Heap} {L a1 a2 a3 FA x dx a4 a5 a6 a7 a8 a9 a10 a11 a12 : Addr} {o1 o2 o3 o4 o5 o6 o7 o8 o9 o10 o11 o12 o13 o14 o15 : Obj} {ts : List (Addr × Obj)}
    (N : News g L h ((a1, o1) :: (a2, o2) :: (a3, o3) :: (FA, o4) :: (x, o5) :: (dx, o6) :: (a4, o7) :: (a5, o8) :: (a6, o9) :: (a7, o10) :: (a8, o11) :: (a9, o12) :: (a10, o13) :: (a11, o14) :: (a12, o15) :: ts)) :
    News g L h ((FA, o4) :: (x, o5) :: (dx, o6) :: ((a1, o1) :: (a9, o12) :: (a11, o14) :: (a12, o15) :: ts)) := news_sub N fun p h => by
  simp only [List.mem_cons] at h ⊢
  rcases h with h | h | h | h | h | h | h | h <;> simp [h]

theorem int_at {ws : List Value} {cs : List Int} (h : IntsAre ws cs) {i : Nat} {v : Value} (hv : ws[i]? = some v) : i < cs.length ∧ ∃ t, v = .int (cs.getD i 0) t :=
  ⟨by rw [← IntsAre.length h]; exact (List.getElem?_eq_some_iff.mp hv).1, IntsAre.int_at h i v hv⟩

theorem post_mono {h₀ : Heap} {L : Addr} {J J' : (Str → Option Value) → List (Addr × Obj) → Prop} {own : List (Addr × Obj)} {s₁ : Shared} {Q : Flow → Shared → Prop} (h : ∀ m nx, J m nx → J' m nx) {f : Flow} {s₂ : Shared} (q : InvPostG h₀ L J own s₁ Q f s₂) : InvPostG h₀ L J' own s₁ Q f s₂ := by
  have fin : InvEndG h₀ L J own s₁ s₂ → InvEndG h₀ L J' own s₁ s₂ := by
    rintro ⟨h', tk, m', news', nx, e, F', N', hn, ho, ha, hj⟩
    exact ⟨h', tk, m', news', nx, e, F', N', hn, ho, ha, h _ _ hj⟩
  cases f with
  | ret v => exact q
  | brk => exact q
  | next => exact fin q
  | cont => exact fin q

section
variable {prog : Program} {w : World} {A : Around} {E : Value → Shared → Prop} {s : Shared} {env : Env} {h₀ : Heap} {x : Str} {body : List Stmt} {Q : Flow → Shared → Prop}
theorem law_loop {l : Addr} {ws : List Value} {nn : Nat} {m₀ : Str → Option Value} {nx₀ : List (Addr × Obj)} {sp : List (Str × List Int)} {tail cs : List Int} {cx dx : Addr} {rest : List (Addr × Obj)} (hi : IntsAre ws cs)
    (hh : A.handled = none) (hl : (l, W.listOf ws.toArray nn) ∈ rest) (hn : ∀ p ∈ rest, p ∈ nx₀) (F : Fr h₀ env.locals s.heap m₀) (N : News h₀ env.locals s.heap nx₀) (hj : LawP w sp tail cs cx dx rest m₀ 0 m₀ nx₀)
    (turn : ∀ (i : Nat) (k b : Int) (t tg : Tok) (FA : Addr) (fvs : List Value) (nF : Nat) (fts : List (Addr × Obj)) (found : List (Str × List Int)) (held : Array UInt8) (t1 t2 tb ta : Tok) (asked : Int) (u : Str → Option Value) (h : Heap) (tk : Nat) (own : List (Addr × Obj)),
      i < cs.length → k = cs.getD i 0 → b = (0 :: cs).getD i 0 → OwnOff own (((FA, W.listOf fvs.toArray nF) :: (cx, instObj 101 dx) :: (dx, cutObj w t1 t2 tb ta held asked) :: (fts ++ rest)).map (·.1)) →
      StepsIn fts fvs found → LoopInv sp tail found (KBw.bInts held) b.toNat → cx < FA → dx < FA → (∀ p ∈ fts, cx < p.1 ∧ dx < p.1) →
      Fr h₀ env.locals h (fun y => if y = x then some (.int k t) else if y = Str.ofString "found" then some (Value.ref FA) else if y = Str.ofString "begin" then some (Value.int b tg) else if [Str.ofString "cut", Str.ofString "steps", Str.ofString "is_behind_head"].contains y then u y else m₀ y) →
      News h₀ env.locals h ((FA, W.listOf fvs.toArray nF) :: (cx, instObj 101 dx) :: (dx, cutObj w t1 t2 tb ta held asked) :: (fts ++ (rest ++ own))) →
      wpAny (model prog w) A (execs body env) (InvPostG h₀ env.locals (LawP w sp tail cs cx dx rest m₀ (i + 1)) own { s with heap := h, toks := tk } Q) E { s with heap := h, toks := tk })
    (done : ∀ (tg : Tok) (FA : Addr) (fvs : List Value) (nF : Nat) (fts : List (Addr × Obj)) (found : List (Str × List Int)) (held : Array UInt8) (u : Str → Option Value) (h : Heap) (tk : Nat),
      StepsIn fts fvs found → LoopInv sp tail found (KBw.bInts held) ((0 :: cs).getD cs.length 0).toNat → 
      Fr h₀ env.locals h (fun y => if y = Str.ofString "found" then some (Value.ref FA) else if y = Str.ofString "begin" then some (Value.int ((0 :: cs).getD cs.length 0) tg) else if [Str.ofString "cut", Str.ofString "steps", Str.ofString "is_behind_head"].contains y then u y else m₀ y) →
      News h₀ env.locals h ((FA, W.listOf fvs.toArray nF) :: (fts ++ rest)) → Q .next { s with heap := h, toks := tk }) :
    wpAny (model prog w) A (pyIter (.ref l)) (fun it s₂ => LoopAtV prog w A h₀ env x body Q E it s₂) E s := by
  refine kdl_iter (LawP w sp tail cs cx dx rest m₀) hh (hn _ hl) F N hj ?_ ?_
  · rintro i v m₁ nx h tk own hv hoff hmem hJ F₁ N₁
    obtain ⟨hlt, t, rfl⟩ := int_at hi hv
    obtain ⟨FA, fvs, nF, fts, found, held, t1, t2, tb, ta, tg, asked, u, rfl, rfl, hS, hL, h1, h2, h3⟩ := hJ.ex
    simp only [List.cons_append, List.append_assoc] at N₁
    refine wpAny_mono (turn i _ _ t tg FA fvs nF fts found held t1 t2 tb ta asked u h tk own hlt rfl rfl hoff hS hL h1 h2 h3 F₁ N₁) (fun f s₂ q => post_mono (fun m' nx hj => ⟨?_, hj⟩) q) fun _ _ e => e
    obtain ⟨FA', fvs', nF', fts', found', held', t1', t2', tb', ta', tg', asked', u', rfl, -⟩ := hj.ex
    exact .tail _ (.tail _ (.tail _ (List.mem_append.mpr (.inr hl))))
  · rintro m₁ nx h tk hJ F₁ N₁
    obtain ⟨FA, fvs, nF, fts, found, held, t1, t2, tb, ta, tg, asked, u, rfl, rfl, hS, hL, h1, h2, h3⟩ := hJ.ex
    have hlen : ws.length = cs.length := IntsAre.length hi
    rw [hlen] at hL F₁
    refine done tg FA fvs nF fts found held u h tk hS hL F₁ (news_sub N₁ fun p hp => ?_)
    simp only [List.mem_cons] at hp ⊢
    rcases hp with hp | hp
    · exact .inl hp
    · exact .inr (.inr (.inr hp))
end
end Mine

namespace Mine

section
variable {prog : Program} {w : World} {A : Around} {E : Value → Shared → Prop} {s : Shared} {h₀ : Heap} {L : Addr} {m : Str → Option Value} {news ts : List (Addr × Obj)} {vs : List Value} {sp : List (Str × List Int)} {value slice : Expr} {u : Tok}

theorem StepsIn.last (h : StepsIn ts vs sp) (hne : sp ≠ []) : ∃ (a : Addr) (k : Str) (tk : Tok) (fb : Array UInt8) (tf : Tok) (d0 : List (Str × List Int)), vs[vs.length - 1]? = some (.ref a) ∧ (a, tupObj [.str k tk, .bytes fb tf]) ∈ ts ∧ sp = d0 ++ [(k, KBw.bInts fb)] := by
  have hl : 0 < vs.length := by
    rw [h.len]; exact List.length_pos_iff.mpr hne
  obtain ⟨a, k, tk, fb, tf, h1, h2, h3⟩ := h.get (vs.length - 1) (by omega)
  refine ⟨a, k, tk, fb, tf, sp.dropLast, ?_, h2, ?_⟩
  · rw [List.getElem?_eq_getElem (by omega), h1]
  · have e := List.dropLast_concat_getLast hne
    rw [← e]
    rw [List.dropLast_concat]
    congr 2
    rw [List.getLast_eq_getElem]
    rw [h.len] at h3
    rw [List.getElem?_eq_getElem (by rw [← h.len]; omega)] at h3
    exact Option.some.inj h3

theorem found_last {FA : Addr} {nF : Nat} {Q : Value → Shared → Prop} (N : News h₀ L s.heap news) (hm : (FA, W.listOf vs.toArray nF) ∈ news) (hS : StepsIn ts vs sp) (hne : sp ≠ [])
    (h : ∀ (a : Addr) (k : Str) (tk : Tok) (fb : Array UInt8) (tf : Tok) (d0 : List (Str × List Int)), (a, tupObj [.str k tk, .bytes fb tf]) ∈ ts → sp = d0 ++ [(k, KBw.bInts fb)] → Q (.ref a) s)
    (hs : subscripted slice false (.ref FA) (.int (-1) u) = operate [.ref FA, .int (-1) u] (getItem (.ref FA) (.int (-1) u)) := by with_unfolding_all rfl) :
    wpAny (model prog w) A (subscriptTail value slice (.ref FA) (.int (-1) u)) Q E s := by
  obtain ⟨a, k, tk, fb, tf, d0, h1, h2, h3⟩ := hS.last hne
  have hl : 0 < vs.length := by rw [hS.len]; exact List.length_pos_iff.mpr hne
  refine kde_neg (vs := vs) (j := vs.length - 1) ⟨_, (N _ hm).1, rfl, _, rfl⟩ (by decide) (by decide) ?_ h1 (h a k tk fb tf d0 h2 h3) hs
  unfold seqIndex?
  simp only [show (-1 : Int) < 0 by decide, if_true]
  rw [if_pos (by simp only [Bool.and_eq_true, decide_eq_true_eq]; omega)]
  congr 1
  omega
theorem tup_kind {a : Addr} {k : Str} {tk : Tok} {fb : Array UInt8} {tf : Tok} {Q : Value → Shared → Prop} (N : News h₀ L s.heap news) (hm : (a, tupObj [.str k tk, .bytes fb tf]) ∈ news) (h : Q (.str k tk) s)
    (hs : subscripted slice false (.ref a) (.int 0 u) = operate [.ref a, .int 0 u] (getItem (.ref a) (.int 0 u)) := by with_unfolding_all rfl) :
    wpAny (model prog w) A (subscriptTail value slice (.ref a) (.int 0 u)) Q E s :=
  item_tupleT (l := [.str k tk, .bytes fb tf]) (j := 0) ⟨_, (N _ hm).1, rfl, _, rfl⟩ (by decide) (by decide) rfl rfl h hs

/-- what a turn's steps leave -/
def StepsPost (w : World) (sp : List (Str × List Int)) (tail : List Int) (found : List (Str × List Int)) (c : Nat) (h₀ : Heap) (L : Addr) (m : Str → Option Value) (FA : Addr) (oF : Obj) (x dx : Addr) (tl : List (Addr × Obj)) (s : Shared) (v : Value) (s' : Shared) : Prop :=
  ∃ (D : Addr) (vs : List Value) (nD : Nat) (ts : List (Addr × Obj)) (st : List (Str × List Int)) (held : Array UInt8) (t1 t2 tb ta : Tok) (asked : Int) (h' : Heap) (tk' : Nat), v = .ref D ∧ s' = { s with heap := h', toks := tk' } ∧ StepsIn ts vs st ∧ TurnOk sp tail found st (KBw.bInts held) c ∧ vs.length ≤ 30 ∧
    Fr h₀ L h' m ∧ News h₀ L h' ((D, W.listOf vs.toArray nD) :: (FA, oF) :: (x, instObj 101 dx) :: (dx, cutObj w t1 t2 tb ta held asked) :: (ts ++ tl)) ∧ (∀ p ∈ tl, p.1 < D) ∧ FA < D ∧ x < D ∧ dx < D ∧ (∀ p ∈ ts, D < p.1)

theorem join_steps {FA x dx : Addr} {oF oC : Obj} {fts rest own : List (Addr × Obj)} {t : Sem Value} {Q : Value → Shared → Prop} (sp : List (Str × List Int)) (tail : List Int) (found : List (Str × List Int)) (c : Nat)
    (F : Fr h₀ L s.heap m) (N : News h₀ L s.heap ((FA, oF) :: (x, instObj 101 dx) :: (dx, oC) :: (fts ++ (rest ++ own))))
    (h1 : wpAny (model prog w) A t (StepsPost w sp tail found c h₀ L m FA oF x dx (fts ++ (rest ++ own)) s) E s)
    (h2 : ∀ (D : Addr) (vs : List Value) (nD : Nat) (ts : List (Addr × Obj)) (st : List (Str × List Int)) (held : Array UInt8) (t1 t2 tb ta : Tok) (asked : Int) (h' : Heap) (tk' : Nat), StepsIn ts vs st → TurnOk sp tail found st (KBw.bInts held) c → vs.length ≤ 30 →
      Fr h₀ L h' m → News h₀ L h' ((D, W.listOf vs.toArray nD) :: (FA, oF) :: (x, instObj 101 dx) :: (dx, cutObj w t1 t2 tb ta held asked) :: (ts ++ (fts ++ (rest ++ own)))) → (∀ p ∈ fts ++ (rest ++ own), p.1 < D) → FA < D → x < D → dx < D → (∀ p ∈ ts, D < p.1) → Q (.ref D) { s with heap := h', toks := tk' }) :
    wpAny (model prog w) A t Q E s := by
  refine wpAny_mono h1 ?_ fun _ _ e => e
  rintro v s' ⟨D, vs, nD, ts, st, held, t1, t2, tb, ta, asked, h', tk', rfl, rfl, g1, g2, g3, g4, g5, g6, g7, g8, g9, g10⟩
  exact h2 D vs nD ts st held t1 t2 tb ta asked h' tk' g1 g2 g3 g4 g5 g6 g7 g8 g9 g10

theorem rest_apart {FA x dx D4 S5 D6 B C a1 a9 D3 a11 a12 : Addr} {oF ox od o1 o9 o11 o12 : Obj} {h : Heap} {fts own : List (Addr × Obj)} (_N : News h₀ L h ((FA, oF) :: (x, ox) :: (dx, od) :: (fts ++ (((a1, o1) :: (a9, o9) :: (a11, o11) :: (a12, o12) :: ts) ++ own)))) (l1 : D4 < dx ∧ S5 < dx ∧ D6 < dx ∧ B < dx ∧ C < dx ∧ a9 < dx ∧ D3 < dx ∧ a11 < dx ∧ a12 < dx ∧ AllLt dx ts) (l2 : dx < x) (l3 : x < a1) (l4 : dx < a1) :
    ∀ p ∈ (a1, o1) :: (a9, o9) :: (a11, o11) :: (a12, o12) :: ts, p.1 ≠ x ∧ p.1 ≠ dx := by
  obtain ⟨-, -, -, -, -, h1, -, h2, h3, h4⟩ := l1
  have lt : ∀ {a : Addr}, a < dx → a ≠ x ∧ a ≠ dx := fun h => ⟨Nat.ne_of_lt (Nat.lt_trans h l2), Nat.ne_of_lt h⟩
  intro p hp
  rcases List.mem_cons.mp hp with rfl | hp
  · exact ⟨Nat.ne_of_gt l3, Nat.ne_of_gt l4⟩
  rcases List.mem_cons.mp hp with rfl | hp
  · exact lt h1
  rcases List.mem_cons.mp hp with rfl | hp
  · exact lt h2
  rcases List.mem_cons.mp hp with rfl | hp
  · exact lt h3
  · exact lt (allLt_all h4 p hp)

theorem turn_apart {FA x dx : Addr} {oF o1 o2 oF' : Obj} {fts rest own : List (Addr × Obj)} (hxd : dx < x) (hr : ∀ p ∈ rest, p.1 ≠ x ∧ p.1 ≠ dx) (h1 : x < FA) (h2 : dx < FA) (h3 : ∀ p ∈ fts, x < p.1 ∧ dx < p.1) (ho : OwnOff own (((FA, oF) :: (x, o1) :: (dx, o2) :: (fts ++ rest)).map (·.1))) :
    CutApart x dx ((FA, oF') :: (fts ++ (rest ++ own))) := by
  have key : ∀ p ∈ (FA, oF') :: (fts ++ (rest ++ own)), p.1 ≠ dx ∧ p.1 ≠ x := by
    intro p hp
    rcases List.mem_cons.mp hp with rfl | hp
    · exact ⟨Nat.ne_of_gt h2, Nat.ne_of_gt h1⟩
    rcases List.mem_append.mp hp with hp | hp
    · exact ⟨Nat.ne_of_gt (h3 p hp).2, Nat.ne_of_gt (h3 p hp).1⟩
    rcases List.mem_append.mp hp with hp | hp
    · exact ⟨(hr p hp).2, (hr p hp).1⟩
    · exact ⟨ho p hp dx (by simp), ho p hp x (by simp)⟩
  exact ⟨Nat.ne_of_lt hxd, Nat.ne_of_gt hxd, fun p hp => (key p hp).1, fun p hp => (key p hp).2⟩

/-- the bytes between two cuts -/
theorem cut_bytes {ks : List Int} {b c : Int} (h0 : 0 ≤ b) (h1 : b ≤ c) (h2 : c ≤ ks.length) : List.take (clipAt ks.length c - clipAt ks.length b) (List.drop (clipAt ks.length b) ks) = (ks.take c.toNat).drop b.toNat := by
  rw [clipAt_id h0 (by omega), clipAt_id (by omega) h2, List.drop_take]

theorem mem6 {α : Type} {a b c d e f p : α} {l r : List α} (h : p ∈ l) : p ∈ d :: a :: b :: c :: e :: f :: (l ++ r) := .tail _ (.tail _ (.tail _ (.tail _ (.tail _ (.tail _ (List.mem_append.mpr (.inl h)))))))
theorem sub6 {α : Type} {a b c d e f : α} {l r : List α} : ∀ p ∈ l, p ∈ d :: a :: b :: c :: e :: f :: (l ++ r) := fun _ h => mem6 h
theorem to_cut6 {h : Heap} {a b c d e f : Addr × Obj} {tl : List (Addr × Obj)} (N : News h₀ L h (d :: a :: b :: c :: e :: f :: tl)) : News h₀ L h (b :: c :: (a :: tl)) := news_sub N fun p h => by
  simp only [List.mem_cons] at h ⊢
  rcases h with h | h | h | h <;> simp [h]
/-- the cells ahead -/
theorem cells3 {h : Heap} {a b c d1 d2 e f : Addr × Obj} {fts tsx own : List (Addr × Obj)} (N : News h₀ L h (a :: b :: c :: (fts ++ ((d1 :: d2 :: e :: f :: tsx) ++ own)))) : News h₀ L h (a :: b :: c :: e :: f :: (fts ++ ((d1 :: d2 :: e :: f :: tsx) ++ own))) := news_sub N fun p h => by
  simp only [List.mem_cons, List.mem_append] at h ⊢
  rcases h with h | h | h | h | h | h <;> simp [h]
theorem cells4 {h : Heap} {a b c g d1 d2 e f : Addr × Obj} {ts fts tsx own : List (Addr × Obj)} (N : News h₀ L h (g :: a :: b :: c :: (ts ++ (fts ++ ((d1 :: d2 :: e :: f :: tsx) ++ own))))) : News h₀ L h (g :: a :: b :: c :: e :: f :: (ts ++ (fts ++ ((d1 :: d2 :: e :: f :: tsx) ++ own)))) := news_sub N fun p h => by
  simp only [List.mem_cons, List.mem_append] at h ⊢
  rcases h with h | h | h | h | h | h | h <;> simp [h]

theorem steps_run {FA x dx D : Addr} {oF : Obj} {tl tsn : List (Addr × Obj)} {tail : List Int} {found : List (Str × List Int)} {b c : Int} {held held' o : Array UInt8} {asked : Int} {vsn : List Value} {t1 t2 tb ta : Tok} {h' : Heap} {tk' : Nat} (hs : Script sp tail) (hL : LoopInv sp tail found (KBw.bInts held) b.toNat)
    (c0 : 0 ≤ b) (c1 : b ≤ c) (c2 : c ≤ (cat sp ++ tail).length) (hg : ∀ d0 e, found = d0 ++ [e] → e.1 ≠ Str.ofString "end") (ho : KBw.bInts o = ((cat sp ++ tail).take c.toNat).drop b.toNat)
    (hS : Steps vsn tsn (runSteps 30 (KBw.bInts held ++ KBw.bInts o) asked).1) (hk : KBw.bInts held' = (runSteps 30 (KBw.bInts held ++ KBw.bInts o) asked).2.1) (hl : vsn.length ≤ 30) (hts : ∀ p ∈ tsn, D < p.1) (hx : x < D) (hd : dx < D) (hr : ∀ p ∈ (FA, oF) :: tl, p.1 < D) (F : Fr h₀ L h' m)
    (N : News h₀ L h' ((D, W.listOf vsn.toArray vsn.length) :: (x, instObj 101 dx) :: (dx, cutObj w t1 t2 tb ta held' (runSteps 30 (KBw.bInts held ++ KBw.bInts o) asked).2.2) :: (tsn ++ ((FA, oF) :: tl)))) :
    StepsPost w sp tail found c.toNat h₀ L m FA oF x dx tl s (.ref D) { s with heap := h', toks := tk' } := by
  rw [ho] at hS hk N
  obtain ⟨dn, g1, g2, g3⟩ := loop_step hs (b := b.toNat) (c := c.toNat) (by omega) (by omega) asked hg hL
  rw [← hk] at g1
  refine ⟨D, vsn, vsn.length, tsn, _, held', t1, t2, tb, ta, (runSteps 30 (KBw.bInts held ++ ((cat sp ++ tail).take c.toNat).drop b.toNat) asked).2.2, h', tk', rfl, rfl, hS.inn, ⟨dn, g1, g2, g3⟩, hl, F, news_sub N fun p hp => ?_, fun p hp => hr p (.tail _ hp), hr _ (.head _), hx, hd, hts⟩
  simp only [List.mem_cons, List.mem_append] at hp ⊢
  rcases hp with hp | hp | hp | hp | hp | hp <;> simp [hp]

theorem steps_idle {FA x dx D l : Addr} {oF ol : Obj} {e1 e2 : Addr × Obj} {tl : List (Addr × Obj)} {tail : List Int} {found d0 : List (Str × List Int)} {e : Str × List Int} {b c : Nat} {held : Array UInt8} {asked : Int} {nD : Nat} {t1 t2 tb ta : Tok} {h' : Heap} {tk' : Nat} (hL : LoopInv sp tail found (KBw.bInts held) b) (hf : found = d0 ++ [e]) (he : e.1 = Str.ofString "end")
    (F : Fr h₀ L h' m) (N : News h₀ L h' ((D, W.listOf #[] nD) :: (l, ol) :: (FA, oF) :: (x, instObj 101 dx) :: (dx, cutObj w t1 t2 tb ta held asked) :: e1 :: e2 :: tl)) (l1 : l < D ∧ FA < D ∧ x < D ∧ dx < D ∧ e1.1 < D ∧ e2.1 < D ∧ AllLt D tl) :
    StepsPost w sp tail found c h₀ L m FA oF x dx tl s (.ref D) { s with heap := h', toks := tk' } := by
  obtain ⟨-, q1, q2, q3, -, -, q4⟩ := l1
  refine ⟨D, [], nD, [], [], held, t1, t2, tb, ta, asked, h', tk', rfl, rfl, .nil, ⟨[], by rw [List.append_nil]; exact loop_idle hf he hL, (fun _ h => nomatch h), .inl rfl⟩, Nat.zero_le _, F, news_sub N fun p hp => ?_, allLt_all q4, q1, q2, q3, fun _ h => nomatch h⟩
  simp only [List.nil_append, List.mem_cons] at hp ⊢
  rcases hp with hp | hp | hp | hp | hp <;> simp [hp]

theorem not_end {found d0 : List (Str × List Int)} {k : Str} {bs : List Int} (hf : found = d0 ++ [(k, bs)]) (hk : k ≠ Str.ofString "end") : ∀ d0 e, found = d0 ++ [e] → e.1 ≠ Str.ofString "end" := by
  intro d1 e h
  rw [hf] at h
  obtain ⟨-, h2⟩ := List.append_inj' h rfl
  rw [← (List.cons.inj h2).1]
  exact hk
theorem none_end {found : List (Str × List Int)} (hf : found = []) : ∀ d0 e, found = d0 ++ [e] → e.1 ≠ Str.ofString "end" := by
  intro d1 e h
  rw [hf] at h
  exact absurd h (by simp)

theorem slice_cut {data : Array UInt8} {t : Tok} {ks : List Int} {b c : Int} {l u' : Value} {Q : Value → Shared → Prop} (F : Fr h₀ L s.heap m) (N : News h₀ L s.heap news) (hk : KBw.bInts data = ks) (c0 : 0 ≤ b) (c1 : b ≤ c) (c2 : c ≤ ks.length) (hz : ks.length ≤ 1000) (hl : IsPart l (some b)) (hu : IsPart u' (some c))
    (h : ∀ (h' : Heap) (o : Array UInt8) (t' : Tok) (k : Nat), Fr h₀ L h' m → News h₀ L h' news → KBw.bInts o = (ks.take c.toNat).drop b.toNat → Q (.bytes o t') { s with heap := h', toks := k })
    (hs : subscripted slice false (.bytes data t) (.ref s.heap.objs.size) = operate [.ref s.heap.objs.size, .bytes data t] (getItem (.bytes data t) (.ref s.heap.objs.size)) := by with_unfolding_all rfl)
    (ht : ∀ r, letTemporaryGo value (.bytes data t) r = pure () := by intro _; with_unfolding_all rfl) :
    wpAny (model prog w) A (subscriptTail value slice (.bytes data t) (.ref s.heap.objs.size)) Q E { s with heap := s.heap.push { cls := .type "slice", data := .fields #[l, u', .none] } } :=
  KBc.slice_K F N hk hl hu (Nat.le_trans hz (by decide)) (fun h' t' k F' N' hb => h h' _ t' k F' N' (hb.trans (cut_bytes c0 c1 c2))) hs ht
theorem slice_to {data : Array UInt8} {t : Tok} {ks : List Int} {c : Int} {u' : Value} {Q : Value → Shared → Prop} (F : Fr h₀ L s.heap m) (N : News h₀ L s.heap news) (hk : KBw.bInts data = ks) (c0 : 0 ≤ c) (c2 : c ≤ ks.length) (hz : ks.length ≤ 1000) (hu : IsPart u' (some c))
    (h : ∀ (h' : Heap) (o : Array UInt8) (t' : Tok) (k : Nat), Fr h₀ L h' m → News h₀ L h' news → KBw.bInts o = ks.take c.toNat → Q (.bytes o t') { s with heap := h', toks := k })
    (hs : subscripted slice false (.bytes data t) (.ref s.heap.objs.size) = operate [.ref s.heap.objs.size, .bytes data t] (getItem (.bytes data t) (.ref s.heap.objs.size)) := by with_unfolding_all rfl)
    (ht : ∀ r, letTemporaryGo value (.bytes data t) r = pure () := by intro _; with_unfolding_all rfl) :
    wpAny (model prog w) A (subscriptTail value slice (.bytes data t) (.ref s.heap.objs.size)) Q E { s with heap := s.heap.push { cls := .type "slice", data := .fields #[.none, u', .none] } } :=
  KBc.slice_K F N hk .none hu (Nat.le_trans hz (by decide)) (fun h' t' k F' N' hb => h h' _ t' k F' N' (hb.trans (by
    show List.take (clipAt ks.length c - 0) (List.drop 0 ks) = _
    rw [clipAt_id c0 c2, Nat.sub_zero, List.drop_zero]))) hs ht
theorem slice_end {data : Array UInt8} {t : Tok} {ks : List Int} {j : Nat} {l : Value} {Q : Value → Shared → Prop} (F : Fr h₀ L s.heap m) (N : News h₀ L s.heap news) (hk : KBw.bInts data = ks) (hj : 0 < j) (hz : ks.length ≤ 1000) (hl : IsPart l (some (-(j : Int))))
    (h : ∀ (h' : Heap) (o : Array UInt8) (t' : Tok) (k : Nat), Fr h₀ L h' m → News h₀ L h' news → KBw.bInts o = ks.drop (ks.length - j) → Q (.bytes o t') { s with heap := h', toks := k })
    (hs : subscripted slice false (.bytes data t) (.ref s.heap.objs.size) = operate [.ref s.heap.objs.size, .bytes data t] (getItem (.bytes data t) (.ref s.heap.objs.size)) := by with_unfolding_all rfl)
    (ht : ∀ r, letTemporaryGo value (.bytes data t) r = pure () := by intro _; with_unfolding_all rfl) :
    wpAny (model prog w) A (subscriptTail value slice (.bytes data t) (.ref s.heap.objs.size)) Q E { s with heap := s.heap.push { cls := .type "slice", data := .fields #[l, .none, .none] } } :=
  KBc.slice_K F N hk hl .none (Nat.le_trans hz (by decide)) (fun h' t' k F' N' hb => h h' _ t' k F' N' (hb.trans (by
    show List.take (ks.length - clipAt ks.length (-(j : Int))) (List.drop (clipAt ks.length (-(j : Int))) ks) = _
    have e : clipAt ks.length (-(j : Int)) = ks.length - j := by
      unfold clipAt
      rw [if_pos (by omega)]
      omega
    rw [e, List.take_of_length_le (by rw [List.length_drop]; exact Nat.le_refl _)]))) hs ht

theorem turn_size {tail : List Int} {found : List (Str × List Int)} {b c : Nat} {held o : Array UInt8} (hs : Script sp tail) (hg : ∀ d0 e, found = d0 ++ [e] → e.1 ≠ Str.ofString "end") (hL : LoopInv sp tail found (KBw.bInts held) b) (ho : KBw.bInts o = ((cat sp ++ tail).take c).drop b) :
    (KBw.bInts held).length + (KBw.bInts o).length ≤ 1000000 := by
  have h1 := loop_held hs hg hL
  have h2 := script_len hs
  rw [ho, List.length_drop, List.length_take]
  omega

def BoolPost (h₀ : Heap) (L : Addr) (m : Str → Option Value) (news : List (Addr × Obj)) (P : Prop) (s : Shared) (v : Value) (s' : Shared) : Prop :=
  ∃ (b : Bool) (h' : Heap) (tk' : Nat), v = .bool b ∧ (P → b = true) ∧ s' = { s with heap := h', toks := tk' } ∧ Fr h₀ L h' m ∧ News h₀ L h' news
theorem join_bool {t : Sem Value} {Q : Value → Shared → Prop} (P : Prop) (_F : Fr h₀ L s.heap m) (_N : News h₀ L s.heap news) (h1 : wpAny (model prog w) A t (BoolPost h₀ L m news P s) E s)
    (h2 : ∀ (b : Bool) (h' : Heap) (tk' : Nat), (P → b = true) → Fr h₀ L h' m → News h₀ L h' news → Q (.bool b) { s with heap := h', toks := tk' }) : wpAny (model prog w) A t Q E s := by
  refine wpAny_mono h1 ?_ fun _ _ e => e
  rintro v s' ⟨b, h', tk', rfl, hP, rfl, F', N'⟩
  exact h2 b h' tk' hP F' N'
theorem BoolPost.intro {P : Prop} {b : Bool} {h' : Heap} {tk' : Nat} (F : Fr h₀ L h' m) (N : News h₀ L h' news) (h : P → b = true) : BoolPost h₀ L m news P s (.bool b) { s with heap := h', toks := tk' } := ⟨b, h', tk', rfl, h, rfl, F, N⟩

theorem bytes_is {o q : Array UInt8} (h : KBw.bInts o = KBw.bInts q) : o.toList = q.toList := bInts_inj.mp h
theorem behind_eq {o : Array UInt8} {ks : List Int} (ho : KBw.bInts o = ks.drop (ks.length - 3)) (h : behind ks) : (o.toList == (#[125, 13, 10] : Array UInt8).toList) = true := by
  rw [beq_iff_eq]
  exact bytes_is (ho.trans h.2.1)
theorem behind_ne {o : Array UInt8} {ks : List Int} (ho : KBw.bInts o = ks.drop (ks.length - 4)) (h : behind ks) : (o.toList != (#[43, 125, 13, 10] : Array UInt8).toList) = true := by
  rw [bne_iff_ne]
  intro e
  exact h.2.2 (ho.symm.trans (bInts_inj.mpr e))
end
end Mine

namespace Mine

section
variable {prog : Program} {w : World} {A : Around} {h₀ : Heap} {L : Addr} {m : Str → Option Value} {env : Env} {ct elt : Expr} {x : Str} {scope : Scope} {cl : List (Str × Addr)} {s : Shared} {S : List (Addr × Obj) → Prop} {Fin : List Value → List (Addr × Obj) → Prop} {news ts : List (Addr × Obj)} {vs : List Value} {sp : List (Str × List Int)} {keep : Str → Bool}

theorem take_filter {α : Type} (f : α → Bool) (l : List α) (i : Nat) (y : α) (h : l[i]? = some y) : (l.take (i + 1)).filter f = (l.take i).filter f ++ (if f y = true then [y] else []) := by
  rw [List.take_add_one, h, List.filter_append]
  congr 1
  cases hf : f y <;> simp [hf]

theorem in_skip1 {α : Type} {a b : α} {l : List α} : ∀ p ∈ a :: l, p ∈ a :: b :: l := fun p h => by
  simp only [List.mem_cons] at h ⊢
  rcases h with h | h <;> simp [h]

/-- a comprehension that keeps the steps of some kind -/
theorem filt_all (hS : S news) (hSt : StepsIn ts vs sp)
    (step : ∀ (v : Value) (I : Addr) (oI : Obj) (C : Addr) (oC : Obj) (D : Addr) (m₂ : Str → Option Value) (h : Heap) (tk : Nat) (E' : Value → Shared → Prop) (ys : List Value) (a : Addr) (k : Str) (tkk : Tok) (fb : Array UInt8) (tf : Tok), v = .ref a → (a, tupObj [.str k tkk, .bytes fb tf]) ∈ ts →
      LCg.NsObj oC m₂ → m₂ x = some v → Fr h₀ L h m → News h₀ L h ((I, oI) :: (C, oC) :: (D, LCg.lst ys) :: news) → LCg.Off3 I C D news → ((@Ne Nat I C) ∧ (@Ne Nat I D) ∧ (@Ne Nat C D)) →
      wpAny (model prog w) A (isTrue ct (compEnvC scope cl C env) (eval ct (compEnvC scope cl C env))) (fun ok s' => ok = keep k ∧ (if ok = true then
        wpAny (model prog w) A (eval elt (compEnvC scope cl C env)) (LCg.CompEnd h₀ L m { s with heap := h, toks := tk } I oI C oC D (LCg.lst ys) S (fun y news' => y = v ∧ news' = news)) E' s'
        else LCg.CompEnd h₀ L m { s with heap := h, toks := tk } I oI C oC D (LCg.lst ys) S (fun _ news' => news' = news) Value.none s')) E' { s with heap := h, toks := tk })
    (fin : ∀ ys, StepsIn ts ys (sp.filter fun q => keep q.1) → ys.length ≤ vs.length → Fin ys news) :
    ∀ (k i : Nat) (ys : List Value), i + k = vs.length → ys.length ≤ i → StepsIn ts ys ((sp.take i).filter fun q => keep q.1) → LCt.CompRestT prog w A h₀ L m env ct elt x scope cl s S (fun i v => vs.toArray[i]? = some v) Fin k i ys news := by
  intro k
  induction k with
  | zero =>
    intro i ys hi hl hy
    refine LCt.CompRestT.zero (fin ys ?_ (by omega))
    rwa [List.take_of_length_le (by rw [← hSt.len]; omega)] at hy
  | succ k ih =>
    intro i ys hi hl hy
    refine LCt.CompRestT.succ fun v I oI C oC D m₂ h tk E' hv hNs hx F N off hne => ?_
    have hlt : i < vs.length := by omega
    obtain ⟨a, kk, tkk, fb, tf, e1, e2, e3⟩ := hSt.get i hlt
    have hv' : v = .ref a := by
      have : vs.toArray[i]? = some vs[i] := by simp [hlt]
      rw [hv] at this
      rw [Option.some.inj this, e1]
    have hnext := take_filter (fun q : Str × List Int => keep q.1) sp i _ e3
    refine wpAny_mono (step v I oI C oC D m₂ h tk E' ys a kk tkk fb tf hv' e2 hNs hx F N off hne) (fun ok s' q => ?_) fun _ _ e => e
    obtain ⟨rfl, q⟩ := q
    cases hk : keep kk with
    | true =>
      rw [hk] at q
      rw [if_pos rfl] at q ⊢
      refine wpAny_mono q (fun y s₂ q2 => ?_) fun _ _ e => e
      obtain ⟨h', tk', news', e, F', N', o', S', rfl, rfl⟩ := q2
      refine ⟨h', tk', _, e, F', N', o', S', ih (i + 1) _ (by omega) (by rw [List.length_append, List.length_singleton]; omega) ?_⟩
      rw [hnext, hv']
      dsimp only
      rw [hk, if_pos rfl]
      exact hy.append (.cons e2 rfl .nil)
    | false =>
      rw [hk] at q
      rw [if_neg Bool.false_ne_true] at q ⊢
      obtain ⟨h', tk', news', e, F', N', o', S', rfl⟩ := q
      refine ⟨h', tk', _, e, F', N', o', S', ih (i + 1) _ (by omega) (by omega) ?_⟩
      rw [hnext]
      dsimp only
      rw [hk, if_neg Bool.false_ne_true, List.append_nil]
      exact hy
end

section
variable {prog : Program} {w : World} {A : Around} {E : Value → Shared → Prop} {s : Shared} {h₀ : Heap} {L : Addr} {m : Str → Option Value} {news : List (Addr × Obj)}
/-- a test that fails -/
def NoPost (h₀ : Heap) (L : Addr) (m : Str → Option Value) (news : List (Addr × Obj)) (s : Shared) (ok : Bool) (s' : Shared) : Prop :=
  ok = false ∧ ∃ (h' : Heap) (tk' : Nat), s' = { s with heap := h', toks := tk' } ∧ Fr h₀ L h' m ∧ News h₀ L h' news
theorem join_no {t : Sem Bool} {Q : Bool → Shared → Prop} (_F : Fr h₀ L s.heap m) (_N : News h₀ L s.heap news) (h1 : wpAny (model prog w) A t (NoPost h₀ L m news s) E s)
    (h2 : ∀ (h' : Heap) (tk' : Nat), Fr h₀ L h' m → News h₀ L h' news → Q false { s with heap := h', toks := tk' }) : wpAny (model prog w) A t Q E s := by
  refine wpAny_mono h1 ?_ fun _ _ e => e
  rintro ok s' ⟨rfl, h', tk', rfl, F', N'⟩
  exact h2 h' tk' F' N'
theorem NoPost.intro {news' : List (Addr × Obj)} {ok : Bool} {h' : Heap} {tk' : Nat} (F : Fr h₀ L h' m) (N : News h₀ L h' news') (hs : ∀ p ∈ news, p ∈ news') (h : ok = false) : NoPost h₀ L m news s ok { s with heap := h', toks := tk' } := ⟨h, h', tk', rfl, F, news_sub N hs⟩

theorem last_ask {ts : List (Addr × Obj)} {vs : List Value} {st : List (Str × List Int)} {P : Prop} {bb : Bool} (hS : StepsIn ts vs st) (h : st.drop (st.length - 1) = [(Str.ofString "ask", [])] → P) (hb : P → bb = true) : st.drop (vs.length - 1) = [(Str.ofString "ask", KBw.bInts #[])] → bb = true := by
  rw [hS.len]
  exact fun e => hb (h e)

theorem turn_end {hA : Heap} {tk : Nat} {D D2 x dx FA : Addr} {sp found st : List (Str × List Int)} {tail cs : List Int} {rest own fts ts2 more : List (Addr × Obj)} {m' m₀ : Str → Option Value} {fvs ys : List Value} {nD i : Nat} {k : Int} {t1 t2 tb ta tg : Tok} {held : Array UInt8} {asked : Int} {oF ox od : Obj}
    (F : Fr h₀ L hA m') (N : News h₀ L hA more) (hN : ∀ p ∈ (D, W.listOf (fvs ++ ys).toArray nD) :: (x, instObj 101 dx) :: (dx, cutObj w t1 t2 tb ta held asked) :: (ts2 ++ (fts ++ (rest ++ own))), p ∈ more)
    (hi : i < cs.length) (hk : k = cs.getD i 0) (hS : StepsIn fts fvs found) (hS2 : StepsIn ts2 ys (st.filter fun q => q.1 != Str.ofString "ask")) (hT : LoopInv sp tail (found ++ st.filter fun q => q.1 != Str.ofString "ask") (KBw.bInts held) k.toNat)
    (g1 : m' (Str.ofString "found") = some (.ref D)) (g2 : m' (Str.ofString "begin") = some (.int k tg)) (g3 : ∀ z, z ≠ Str.ofString "found" → z ≠ Str.ofString "begin" → [Str.ofString "cut", Str.ofString "steps", Str.ofString "is_behind_head"].contains z = false → m' z = m₀ z)
    (hD : D2 < D) (hr : ∀ p ∈ fts ++ (rest ++ own), p.1 < D2) (hx : x < D2) (hd : dx < D2) (ht : ∀ p ∈ ts2, D2 < p.1) (h3 : ∀ p ∈ fts, x < p.1 ∧ dx < p.1) (ho : OwnOff own (((FA, oF) :: (x, ox) :: (dx, od) :: (fts ++ rest)).map (·.1))) :
    InvEndG h₀ L (LawP w sp tail cs x dx rest m₀ (i + 1)) own s { s with heap := hA, toks := tk } := by
  have e : (0 :: cs).getD (i + 1) 0 = k := by rw [List.getD_cons_succ, hk]
  refine InvEndG.intro F N (nx := (D, W.listOf (fvs ++ ys).toArray nD) :: (x, instObj 101 dx) :: (dx, cutObj w t1 t2 tb ta held asked) :: ((ts2 ++ fts) ++ rest)) ⟨D, fvs ++ ys, nD, ts2 ++ fts, _, held, t1, t2, tb, ta, tg, asked, m', rfl, ?_, (hS.mono fun p hp => List.mem_append.mpr (.inr hp)).append (hS2.mono fun p hp => List.mem_append.mpr (.inl hp)), ?_, Nat.lt_trans hx hD, Nat.lt_trans hd hD, ?_⟩ ?_ ?_ ?_
  · rw [e]; exact fr_eq2 g1 g2 g3
  · rw [e]; exact hT
  · intro p hp
    rcases List.mem_append.mp hp with hp | hp
    · exact ⟨Nat.lt_trans hx (ht p hp), Nat.lt_trans hd (ht p hp)⟩
    · exact h3 p hp
  · intro p hp b hb
    have hlt : p.1 < D2 := hr p (List.mem_append.mpr (.inr (List.mem_append.mpr (.inr hp))))
    simp only [List.map_cons, List.mem_cons] at hb
    rcases hb with rfl | rfl | rfl | hb
    · exact Nat.ne_of_lt (Nat.lt_trans hlt hD)
    · exact ho p hp _ (by simp)
    · exact ho p hp _ (by simp)
    · obtain ⟨q, hq, rfl⟩ := List.mem_map.mp hb
      rcases List.mem_append.mp hq with hq | hq
      · rcases List.mem_append.mp hq with hq | hq
        · exact Nat.ne_of_lt (Nat.lt_trans hlt (ht q hq))
        · refine ho p hp _ ?_
          simp only [List.map_cons, List.mem_cons, List.map_append, List.mem_append]
          exact .inr (.inr (.inr (.inl (List.mem_map.mpr ⟨q, hq, rfl⟩))))
      · refine ho p hp _ ?_
        simp only [List.map_cons, List.mem_cons, List.map_append, List.mem_append]
        exact .inr (.inr (.inr (.inr (List.mem_map.mpr ⟨q, hq, rfl⟩))))
  · intro p hp
    refine hN p ?_
    simp only [List.mem_cons, List.mem_append] at hp ⊢
    rcases hp with hp | hp | hp | (hp | hp) | hp <;> simp [hp]
  · intro p hp
    refine hN p ?_
    simp only [List.mem_cons, List.mem_append]
    simp [hp]

theorem end_sub {α : Type} {a b1 b2 b3 c d e f : α} {l : List α} : ∀ p ∈ a :: c :: d :: l, p ∈ a :: b1 :: b2 :: b3 :: c :: d :: e :: f :: l := fun p h => by
  simp only [List.mem_cons] at h ⊢
  rcases h with h | h | h | h <;> simp [h]
theorem news_none {h : Heap} (_N : News h₀ L h news) : News h₀ L h [] := fun _ h => nomatch h
theorem done_sub {α : Type} {a b c d e : α} {fts ts : List α} : (∀ p ∈ fts, p ∈ a :: (fts ++ (b :: c :: d :: e :: ts))) ∧ (∀ p ∈ ts, p ∈ a :: (fts ++ (b :: c :: d :: e :: ts))) ∧ c ∈ a :: (fts ++ (b :: c :: d :: e :: ts)) := by
  refine ⟨fun p h => ?_, fun p h => ?_, ?_⟩
  · simp [h]
  · simp [h]
  · simp
theorem sub_xd {α : Type} {a b c x d : α} {l : List α} : ∀ p ∈ [x, d], p ∈ a :: b :: c :: x :: d :: l := fun p h => by
  simp only [List.mem_cons, List.not_mem_nil, or_false] at h ⊢
  rcases h with h | h <;> simp [h]
theorem sz30 {vs : List Value} (h : vs.length ≤ 30) : vs.toArray.size ≤ sizeLine := by
  rw [List.size_toArray, sizeLine_eq]; omega
theorem sz30l {vs : List Value} (h : vs.length ≤ 30) : vs.dropLast.toArray.size ≤ sizeLine := by
  rw [List.size_toArray, List.length_dropLast, sizeLine_eq]; omega
theorem sz35 {fvs ys vs : List Value} (h1 : fvs.length ≤ 5) (h2 : ys.length ≤ vs.length) (h3 : vs.length ≤ 30) : fvs.toArray.toList.length + ys.toArray.toList.length ≤ sizeLine := by
  show fvs.length + ys.length ≤ sizeLine
  rw [sizeLine_eq]; omega
theorem take_le1000 {ks : List Int} {n : Nat} (h : ks.length ≤ 1000) : (ks.take n).length ≤ 1000 := by
  rw [List.length_take]; omega
end
end Mine

namespace Mine
local macro_rules | `(tactic| walk_at $s:str) => `(tactic| k_extra $s)
theorem allNe_of {l : List (Addr × Obj)} {D a : Addr} (h : ∀ p ∈ l, D < p.1) (h2 : @LT.lt Nat _ a D) : ∀ p ∈ l, p.1 ≠ a := fun p hp => Nat.ne_of_gt (Nat.lt_trans h2 (h p hp))
theorem allNe_of' {l : List (Addr × Obj)} {D a : Addr} (h : ∀ p ∈ l, p.1 < D) (h2 : @LT.lt Nat _ D a) : ∀ p ∈ l, p.1 ≠ a := fun p hp => Nat.ne_of_lt (Nat.lt_trans (h p hp) h2)
local macro_rules | `(tactic| k_all) => `(tactic| first | assumption | exact allNe_of (by assumption) (by omega) | exact allNe_of' (by assumption) (by omega) | (refine' List.forall_mem_cons.mpr ⟨?a, ?b⟩; (case a => k_ne); (case b => k_all)))
local macro_rules | `(tactic| k_ne) => `(tactic| first | assumption | exact Nat.ne_of_gt (by assumption) | exact Nat.ne_of_lt (by assumption) | (refine neN ?_; (try dsimp only); omega))

theorem app_comm {α : Type} {a b c d : α} {ts r : List α} : ∀ p ∈ a :: b :: c :: d :: (r ++ ts), p ∈ a :: b :: c :: d :: (ts ++ r) := fun p h => by
  simp only [List.mem_cons, List.mem_append] at h ⊢
  rcases h with h | h | h | h | h | h <;> simp [h]
theorem bag_ok {ys : List Value} {ns : List Int} {k : Nat} (h : IntsAre ys (List.map (fun k' : Int => (if k' < 0 then -k' else k').fmod (10 ^ Int.toNat 40)) (List.take 30 ns))) (hk : ¬ ((63 : Nat) : Int) < (k : Int)) : BagOk ys (List.map (fun k' : Int => (if k' < 0 then -k' else k').fmod (10 ^ Int.toNat 40)) (List.take 30 ns)) 0 (5 + 3 * (k : Int)) := by
  refine ⟨h, by rw [List.length_map, List.length_take]; omega, fun n hn => ?_, Int.le_refl _, by omega, by omega⟩
  obtain ⟨m, -, rfl⟩ := List.mem_map.mp hn
  exact ⟨(fmod_lt (by decide)).1, (fmod_lt (by decide)).2⟩

theorem drop5 {h₀ h : Heap} {L : Addr} {a b c d : Addr × Obj} {ts l : List (Addr × Obj)} (N : News h₀ L h (a :: b :: c :: (ts ++ (d :: l)))) : News h₀ L h l :=
  news_sub N fun p h => .tail _ (.tail _ (.tail _ (List.mem_append.mpr (.inr (.tail _ h)))))

theorem law_goes : PySem.Challenge.rw_sa0548_01.Holds := by
  refine Mine.hd ?_
  k_go0
  (all_goals try k_fold)
  k_with_none
  k_with "call ref" => ((with_reducible show wpAny _ _ (call (Value.ref 126) _) _ _ _); refine Stop.of ?_)
  k_with "call ref" => ((with_reducible show wpAny _ _ (call (Value.ref 133) _) _ _ _); refine Stop.of ?_)
  k_with "call ref" => ((with_reducible show wpAny _ _ (call (Value.ref 119) _) _ _ _); refine Stop.of ?_)
  k_with "call ref" => (
    (rename Fr _ _ _ _ => lF); (rename News _ _ _ _ => lN);
    (k_dflt (refine' CallsAt.use ?k1 ?k2 ?k3 ?k4 ?k5 ?kK (streamed_at _ _ _ _ _ _ _ _ _ _ _ _ ?b1 ?b2 ?b3 ?b4 ?b5) ?kd ?ku ?_));
    (case k2 => k_dflt (exact lF)); (case k4 => k_dflt (exact lN)); (clear lF lN);
    (case k1 => k_dflt k_asm); (case k3 => k_dflt k_asm); (case k5 => k_dflt k_asm); (case kK => first | exact rfl | assumption);
    (case b5 => k_dflt (exact bag_ok (by assumption) (by assumption)));
    (case b1 => k_ne); (case b2 => k_ne); (case b3 => k_all); (case b4 => k_all); (case kd => k_dflt decide); (case ku => k_dflt (exact Nat.le_of_ble_eq_true rfl));
    (intro T9 D9 vs9 ts9 sp9 data9 td9 tail9 cs9 ns9 turn9 seed9 tt9 ts9' nB9 nC9 h9 tk9 hS9 hd9 hSc9 hB9 hBD9 hCD9 hr9 hts9 hTs9 hDT9 F9 N9);
    (replace N9 := news_sub N9 app_comm); (simp only [List.cons_append, List.nil_append] at N9);
    (dsimp only [tupObj, bagObj] at N9);
    (have hr8 := allLt_of hr9); (simp only [AllLt] at hr8);
    (have hDT8 : @LT.lt Nat _ D9 T9 := hDT9); (have hBD8 : @LT.lt Nat _ _ D9 := hBD9); (have hCD8 : @LT.lt Nat _ _ D9 := hCD9))
  k_with "compareOp NotEq ref ref" => (refine Stop.of ?_)
  k_steps
  unfold Stop
  (rename Fr _ _ _ _ => lF); (rename News _ _ _ _ => lN)
  have hlen9 := script_len hSc9
  k_dflt (refine' CallsAt.use ?k1 ?k2 ?k3 ?k4 ?k5 ?kK (steps_at _ _ _ _ ⟨?b1, ?b2, ?b3, ?b4⟩ _ _ _ _ _ _ _ _ [] _ ?hh hd9 ?hz) ?kd ?ku ?_)
  case k2 => k_dflt (exact lF)
  case k4 => k_dflt (exact lN)
  clear lF lN
  case k1 => k_dflt k_asm
  case k3 => k_dflt k_asm
  case k5 => k_dflt k_asm
  case kK => first | exact rfl | assumption
  case b1 => k_ne
  case b2 => k_ne
  case b3 => k_all
  case b4 => k_all
  case hh => exact (rfl : KBw.bInts #[] = [])
  case hz => simpa using Nat.le_trans hlen9 (by decide)
  case kd => k_dflt decide
  case ku => k_dflt (exact Nat.le_of_ble_eq_true rfl)
  intro D8 vs8 ts8 held8 t81 t82 t83 t84 h8 tk8 hS8 hk8 hl8 hts8 hxD8 hdD8 hr8' F8 N8
  rw [List.nil_append, whole hSc9] at hS8
  k_steps
  unfold Stop
  (rename Fr _ _ _ _ => lF); (rename News _ _ _ _ => lN)
  k_dflt (refine steps_ne lN (.head _) (List.Mem.tail _ (.tail _ (.tail _ (List.mem_append.mpr (.inr (.tail _ (.head _))))))) hS8.inn hS9.inn ?i1 ?i2 (Nat.le_of_ble_eq_true rfl) ?_)
  case i1 => intro p hp; simp [hp]
  case i2 => intro p hp; simp [hp]
  rw [decide_eq_true rfl, Bool.not_true]
  k_with "eval Call Name" => (refine Stop.of ?_)
  k_steps
  unfold Stop
  have lN2 := drop5 lN
  clear lN
  k_with_none
  k_with "call ref" => ((with_reducible show wpAny _ _ (call (Value.ref 119) _) _ _ _); refine Stop.of ?_)
  k_with "eval ListComp" => (refine Stop.of ?_)
  k_with "call ref" => ((with_reducible show wpAny _ _ (call (Value.ref 133) _) _ _ _); refine Stop.of ?_)
  k_steps
  unfold Stop
  (rename Fr _ _ _ _ => lF)
  k_dflt (refine' LCg.ListComp_U lF ?hclos ?hcell ?hkind ?hnames ?hx ?_)
  case hclos => k_dflt rfl
  case hcell => decide
  case hkind => rfl
  case hnames => decide
  case hx => rfl
  k_steps
  unfold Stop
  k_dflt (refine' CallsAt.use ?k1 ?k2 ?k3 ?k4 ?k5 ?kK (out_at _ _ _ _ _ _ _ _ _ _ _ _ _ _ ?b1 ?b2 ?b3 ?b4 hB9 ?p5 ?p6) ?kd ?ku ?_)
  case k2 => k_dflt (exact lF)
  case k4 => k_dflt (exact rot3 lN2)
  clear lF lN2
  case k1 => k_dflt k_asm
  case k3 => k_dflt k_asm
  case k5 => k_dflt k_asm
  case kK => first | exact rfl | assumption
  case b1 => k_ne
  case b2 => k_ne
  case b3 => k_all
  case b4 => k_all
  case p5 => decide
  case p6 => decide
  case kd => k_dflt decide
  case ku => k_dflt (exact Nat.le_of_ble_eq_true rfl)
  intro r7 t7 cs7 ns7 turn7 seed7 tt7 ts7 nB7 nC7 h7 tk7 hr70 hr71 hB7 F7 N7
  have hW7 : Within r7 7 := ⟨hr70, hr71⟩
  clear hr70 hr71
  dsimp only [bagObj] at N7
  k_steps
  (rename Fr _ _ _ _ => lF); (rename News _ _ _ _ => lN); (rename IsRange _ _ _ _ _ _ _ _ => rgX)
  with_unfolding_all refine' LCg.CompSrc.range (n := (r7 - 0).toNat) (by rfl) lF lN (by exact rgX) (small_one (by omega) (by omega) (by have := hW7.1; omega) (by have := hW7.2; omega)) (rangeSize_nat _ _) ?_ ?_
  · rw [sizeLine_eq]; have := hW7.2; omega
  clear lF lN rgX
  intro g
  refine cuts_all (len := (cat sp9 ++ tail9).length) (M := 6) ?step ?fin _ _ _ _ (by have := hW7.2; simp only [List.length_nil]; omega) ⟨[], cs7, ns7, turn7, seed7, tt7, ts7, nB7, nC7, rfl, .nil, (fun _ h => nomatch h), hB7⟩
  case step =>
    intro v I oI Cc oC D m₂ h6 tk6 E6 ys6 cuts6 cs6 ns6 turn6 seed6 tt6 ts6 nB6 nC6 hi6 hb6 hB6 hNs6 hv6 F6 N6 off6 hne6
    dsimp only [bagObj] at N6
    k_with "call builtin:len" => (refine len_S hd9 (by omega) (fun t5 k5 => ?_))
    k_steps
    unfold Stop
    (rename Fr _ _ _ _ => lF); (rename News _ _ _ _ => lN)
    have hoB := off6.1
    have hoC := off6.2.1
    dsimp only at hoB hoC
    k_dflt (refine' CallsAt.use ?k1 ?k2 ?k3 ?k4 ?k5 ?kK (out_at _ _ _ _ _ _ _ _ _ _ _ _ _ _ ?b1 ?b2 ?b3 ?b4 hB6 ?p5 ?p6) ?kd ?ku ?_)
    case k2 => k_dflt (exact lF)
    case k4 => k_dflt (exact rot5 lN)
    clear lF lN
    case k1 => k_dflt k_asm
    case k3 => k_dflt k_asm
    case k5 => k_dflt k_asm
    case kK => first | exact rfl | assumption
    case b1 => k_ne
    case b2 => k_ne
    case b3 => exact List.forall_mem_cons.mpr ⟨hoB.1.symm, List.forall_mem_cons.mpr ⟨hoB.2.1.symm, List.forall_mem_cons.mpr ⟨hoB.2.2.symm, by k_all⟩⟩⟩
    case b4 => exact List.forall_mem_cons.mpr ⟨hoC.1.symm, List.forall_mem_cons.mpr ⟨hoC.2.1.symm, List.forall_mem_cons.mpr ⟨hoC.2.2.symm, by k_all⟩⟩⟩
    case p5 => omega
    case p6 => omega
    case kd => k_dflt decide
    case ku => k_dflt (exact Nat.le_of_ble_eq_true rfl)
    intro r7 t7 cs7 ns7 turn7 seed7 tt7 ts7 nB7 nC7 h7 tk7 hr70 hr71 hB7 F7 N7
    refine LCg.CompEnd.intro F7 N7 _ back5 off6 trivial ⟨cuts6 ++ [r7], cs7, ns7, turn7, seed7, tt7, ts7, nB7, nC7, rfl, ints_snoc hi6, ?_, hB7⟩
    intro n hn
    rcases List.mem_append.mp hn with hn | hn
    · exact hb6 n hn
    · rw [List.mem_singleton.mp hn]; omega
  case fin =>
    rintro ys news hM6 ⟨cuts, cs6, ns6, turn6, seed6, tt6, ts6, nB6, nC6, rfl, hi6, hb6, hB6⟩ D6 h6 tk6 F6 N6 off6
    dsimp only [bagObj] at N6
    k_with_none
    have hlen6 := IntsAre.length hi6
    k_with "call type:set" => (
      (rename Fr _ _ _ _ => lF); (rename News _ _ _ _ => lN);
      (k_dflt (refine set_N (B := fun n => 0 ≤ n ∧ n ≤ ((cat sp9 ++ tail9).length : Nat)) (by rfl) lF lN (.head _) hi6 hb6 (by unfold scanBound; omega) ?_));
      (clear lF lN); (intro S5 o5 h5 tk5 F5 N5 hlt5 hS5))
    k_with "call builtin:sorted" => (
      (rename Fr _ _ _ _ => lF); (rename News _ _ _ _ => lN);
      (k_dflt (refine sorted_set (by rfl) lF lN (lN _ (.head _)).1 (by assumption) (by omega) ?_));
      (clear lF lN); (intro D4 vs4 ns4 e4 h4 d4 tk4 F4 N4 hlt4 hi4 ho4 hb4 hl4))
    k_with "call builtin:len" => (refine len_S hd9 (by omega) (fun t5 k5 => ?_))
    k_with "exec For" => ((rename Fr _ _ _ _ => lF'); (with_unfolding_all refine' For_invVF lF' ?k1 ?k2 ?_); (case k1 => exact rfl); (case k2 => exact rfl))
    k_with "pyIter ref" => (refine Stop.of ?_)
    k_steps
    unfold Stop
    (rename Fr _ _ _ _ => lF); (rename News _ _ _ _ => lN); (rename IntsAre _ (_ ++ [_]) => hIw)
    have lN2 := loop_ledger lN
    clear lN
    with_unfolding_all refine' law_loop (sp := sp9) (tail := tail9) hIw ?hh ?hl ?hn ?kF ?kN ?kJ ?turn ?done
    case kF => exact lF
    case kN => exact lN2
    case kJ =>
      with_unfolding_all refine' LawP_init hSc9 ?e1 ?e2 ?hx ?hd
      case e1 => with_unfolding_all rfl
      case e2 => with_unfolding_all rfl
      case hx => show @LT.lt Nat _ _ _; omega
      case hd => show @LT.lt Nat _ _ _; omega
    case hl => exact .head _
    case hh => rfl
    case hn => intro p hp; simp only [List.mem_cons] at hp ⊢; rcases hp with h | h | h | h | h <;> simp [h]
    case turn =>
      clear lF lN2
      intro i k b t tg FA fvs nF fts found held t1 t2 tb ta asked u h tk own hi hk hb hoff hS hL h1 h2 h3 lF lN
      obtain ⟨c0, c1, c2⟩ := cut_between ho4 hb4 hi
      rw [← hb, ← hk] at c1
      rw [← hb] at c0
      rw [← hk] at c2
      have hR8 := rest_apart lN (by assumption) (show @LT.lt Nat _ _ _ by omega) (show @LT.lt Nat _ _ _ by omega) (show @LT.lt Nat _ _ _ by omega)
      have hAp := turn_apart (oF' := W.listOf fvs.toArray nF) (show @LT.lt Nat _ _ _ by omega) hR8 h1 h2 h3 hoff
      k_with "eval IfExp" => (refine Stop.of ?_)
      k_steps
      unfold Stop
      refine join_steps sp9 tail9 found k.toNat lF lN ?_ ?_
      · have lN8 := cells3 lN
        clear lN
        k_with_none
        k_with "compareOp Eq ref ref" => (refine Stop.of ?_)
        k_steps
        unfold Stop
        (rename News _ _ _ _ => lN9)
        k_dflt (refine steps_eq lN9 (.tail _ (.head _)) (.head _) hS (StepsIn.nil (ts := [])) sub6 (fun _ h => nomatch h) (Nat.le_of_ble_eq_true rfl) ?_)
        k_with "subscriptTail Name UnaryOp ref int" => (
          (rename News _ _ _ _ => lN9);
          (k_dflt (refine found_last lN9 (.tail _ (.head _)) hS (of_decide_eq_false (by assumption)) (fun a9 k9 tk9 fb9 tf9 d09 hm9 hf9 => ?_))))
        k_with "subscriptTail Subscript" => (
          (rename News _ _ _ _ => lN9);
          (refine tup_kind lN9 (mem6 (by assumption)) ?_))
        k_with "call ref" => (
          (rename Fr _ _ _ _ => lF7); (rename News _ _ _ _ => lN7);
          (k_dflt (refine' CallsAt.use ?k1 ?k2 ?k3 ?k4 ?k5 ?kK (steps_at _ _ _ _ hAp _ _ _ _ _ _ _ _ _ _ ?hh ?ho ?hz) ?kd ?ku ?_));
          (case k2 => k_dflt (exact lF7)); (case k4 => (have q7 := to_cut6 lN7); k_dflt (exact q7)); (clear lF7 lN7);
          (case k1 => k_dflt k_asm); (case k3 => k_dflt k_asm); (case k5 => k_dflt k_asm); (case kK => first | exact rfl | assumption);
          (case hh => exact rfl); (case ho => exact rfl);
          (case hz => first | exact turn_size hSc9 (none_end (of_decide_eq_true (by assumption))) hL (by assumption) | exact turn_size hSc9 (not_end (by assumption) (bne_iff_ne.mp (by assumption))) hL (by assumption));
          (case kd => k_dflt decide); (case ku => k_dflt (exact Nat.le_of_ble_eq_true rfl));
          (intro D7 vs7 ts7 held7 t71 t72 t73 t74 h7' tk7' hS7 hk7 hl7 hts7 hx7 hd7 hr7 F7' N7'))
        k_with "subscriptTail Name Slice" => (
          (rename Fr _ _ _ _ => lF7); (rename News _ _ _ _ => lN7);
          (k_dflt (refine slice_cut (s := ⟨_, _, _, _, _⟩) lF7 lN7 hd9 c0 c1 c2 hlen9 (by constructor) (by constructor) (fun h6' o6' t6' k6' F6' N6' ho6' => ?_))))
        k_steps
        · exact steps_run hSc9 hL c0 c1 c2 (none_end (of_decide_eq_true (by assumption))) (by assumption) hS7 hk7 hl7 hts7 hx7 hd7 hr7 (by assumption) (by assumption)
        · exact steps_run hSc9 hL c0 c1 c2 (not_end (by assumption) (bne_iff_ne.mp (by assumption))) (by assumption) hS7 hk7 hl7 hts7 hx7 hd7 hr7 (by assumption) (by assumption)
        · refine steps_idle hL hf9 (bne_eq_false_iff_eq.mp (by assumption)) (by assumption) (by assumption) (by assumption)
      · clear lF lN
        intro D2 vs2 nD2 ts2 st2 held2 t12 t22 tb2 ta2 asked2 h2' tk2 hS2 hT2 hl2 lF lN0 hr2 hF2 hx2 hd2 ht2
        have lN := cells4 lN0
        clear lN0
        obtain ⟨hT3, hT4, hT5⟩ := turn_filter hT2
        k_with_none
        k_with "eval BoolOp" => (refine Stop.of ?_)
        k_steps
        unfold Stop
        (rename Fr _ _ _ _ => lF); (rename News _ _ _ _ => lN)
        refine join_bool (behind ((cat sp9 ++ tail9).take k.toNat)) lF lN ?_ ?_
        · k_with_none
          k_with "compareOp" => (refine Stop.of ?_)
          k_with "subscriptTail" => (refine Stop.of ?_)
          k_with "subscriptTail Subscript" => (
            (rename Fr _ _ _ _ => lF7); (rename News _ _ _ _ => lN7);
            (first
              | k_dflt (refine slice_end (s := ⟨_, _, _, _, _⟩) (j := 3) lF7 lN7 (by assumption) (by decide) (take_le1000 hlen9) (IsPart.int _ _) (fun h6' o6' t6' k6' F6' N6' ho6' => ?_))
              | k_dflt (refine slice_end (s := ⟨_, _, _, _, _⟩) (j := 4) lF7 lN7 (by assumption) (by decide) (take_le1000 hlen9) (IsPart.int _ _) (fun h6' o6' t6' k6' F6' N6' ho6' => ?_))))
          k_with "subscriptTail Name Slice" => (
            (rename Fr _ _ _ _ => lF7); (rename News _ _ _ _ => lN7);
            (k_dflt (refine slice_to (s := ⟨_, _, _, _, _⟩) lF7 lN7 hd9 (Int.le_trans c0 c1) c2 hlen9 (by constructor) (fun h6' o6' t6' k6' F6' N6' ho6' => ?_))))
          k_steps
          · exact BoolPost.intro (by assumption) (by assumption) (behind_ne (by assumption))
          · exact BoolPost.intro (by assumption) (by assumption) (behind_eq (by assumption))
        · clear lF lN
          intro bb hb' tkb hbb lF lN
          k_with_none
          k_with "isTrue BoolOp" => (refine Stop.of ?_)
          k_steps
          unfold Stop
          (rename Fr _ _ _ _ => lF); (rename News _ _ _ _ => lN)
          refine join_no lF lN ?_ ?_
          · k_with_none
            k_with "eval ListComp" => (refine Stop.of ?_)
            k_steps
            unfold Stop
            (rename Fr _ _ _ _ => lF); (rename News _ _ _ _ => lN)
            k_dflt (refine' LCt.ListComp_T lF ?hclos ?hcell ?hkind ?hnames ?hx ?_)
            case hclos => k_dflt rfl
            case hcell => decide
            case hkind => rfl
            case hnames => decide
            case hx => rfl
            k_with "CompSrcT" => (refine Stop.of ?_)
            k_with "subscriptTail Name Slice ref ref" => (
              (rename Fr _ _ _ _ => lF7); (rename News _ _ _ _ => lN7);
              (k_dflt (refine' kmk_slice_lit (s := ⟨_, _, _, _, _⟩) lF7 lN7 ?hl .none (IsPart.int _ _) (pick_but_last vs2) ?_ ?hs ?ht ?hz)); (case hl => exact ⟨_, (lN7 _ (.head _)).1, rfl, _, rfl⟩); (case hs => with_unfolding_all rfl); (case ht => (intro _; with_unfolding_all rfl)); (case hz => exact sz30 hl2);
              (clear lF7 lN7); (intro D6' h6' F6' N6' l6'))
            k_steps
            unfold Stop
            (rename Fr _ _ _ _ => lF); (rename News _ _ _ _ => lN)
            refine LCt.CompSrcT.ledger ?hh lF lN (.head _) ?hz (fun g => ?_)
            case hh => rfl
            case hz => exact sz30l hl2
            refine filt_all (vs := vs2.dropLast) (sp := st2.dropLast) (ts := ts2) (keep := fun k => k == Str.ofString "ask") ?hS hS2.dropLast ?step ?fin _ 0 [] ?hi (Nat.le_refl _) .nil
            case hS => exact .inr ⟨_, .head _, rfl, _, rfl⟩
            case hi => simp
            case step =>
              clear lF lN
              intro v I oI C oC Dn m₂ h7 tk7 E' ys a9 k9 tkk9 fb9 tf9 hv9 hm9 hNs9 hx9 lF lN off9 hne9
              subst hv9
              k_with_none
              k_with "subscriptTail Name Constant ref int" => (
                (rename News _ _ _ _ => lN7);
                (k_dflt (refine tup_kind (k := k9) (tk := tkk9) (fb := fb9) (tf := tf9) lN7 ?hm ?_)); (case hm => (repeat (first | exact List.mem_append.mpr (.inl hm9) | refine List.Mem.tail _ ?_))))
              k_steps
              · exact LCg.CompEnd.intro (by assumption) (by assumption) _ (fun _ h => h) off9 (.inr ⟨_, .head _, rfl, _, rfl⟩) ⟨rfl, rfl⟩
              · exact LCg.CompEnd.intro (by assumption) (by assumption) _ (fun _ h => h) off9 (.inr ⟨_, .head _, rfl, _, rfl⟩) rfl
            case fin =>
              clear lF lN
              intro ys hys hlys D8 h8 tk8 lF lN off8
              rw [hT4] at hys
              obtain rfl : ys = [] := List.eq_nil_of_length_eq_zero (by rw [hys.len]; rfl)
              have lN2 := news_sub lN (fun p h => in_skip1 p h)
              clear lN
              k_with_none
              k_with "compareOp NotEq ref ref" => (
                (rename News _ _ _ _ => lN7);
                (k_dflt (refine steps_ne (ts := []) (ts' := []) (vs := []) (vs' := []) (sp := []) (sp' := []) lN7 ?m1 ?m2 .nil .nil (fun _ h => nomatch h) (fun _ h => nomatch h) (Nat.le_of_ble_eq_true rfl) ?_));
                (case m1 => exact .tail _ (.head _)); (case m2 => exact .head _); (rw [decide_eq_true rfl, Bool.not_true]))
              k_with "subscriptTail Name Slice ref ref" => (
                (rename Fr _ _ _ _ => lF7); (rename News _ _ _ _ => lN7);
                (k_dflt (refine' kmk_slice_lit (s := ⟨_, _, _, _, _⟩) lF7 lN7 ?hl (IsPart.int _ _) .none (pick_last vs2) ?_ ?hs ?ht ?hz)); (case hl => exact ⟨_, (lN7 _ (.tail _ (.tail _ (.head _)))).1, rfl, _, rfl⟩); (case hs => with_unfolding_all rfl); (case ht => (intro _; with_unfolding_all rfl)); (case hz => exact sz30 hl2);
                (clear lF7 lN7); (intro D6' h6' F6' N6' l6'); (try k_lt l6'))
              k_with "compareOp Eq ref ref" => (refine Stop.of ?_)
              k_steps
              unfold Stop
              (rename News _ _ _ _ => lN9)
              k_dflt (refine steps_eq (n := 0) (n' := 0) (vs := vs2.drop (vs2.length - 1)) (sp := st2.drop (vs2.length - 1)) (ts := ts2) (sp' := [(Str.ofString "ask", KBw.bInts #[])]) lN9 ?m1 (.head _) (hS2.drop _) ?S2 ?i1 (fun _ h => h) (Nat.le_of_ble_eq_true rfl) ?_)
              case m1 => exact .tail _ (.tail _ (.head _))
              case S2 => exact .cons (.tail _ (.head _)) rfl .nil
              case i1 => intro p hp; repeat (first | exact List.mem_append.mpr (.inl hp) | refine List.Mem.tail _ ?_)
              by_cases hlast : st2.drop (vs2.length - 1) = [(Str.ofString "ask", KBw.bInts #[])]
              · have hb1 := last_ask hS2 hT5 hbb hlast
                rw [decide_eq_true hlast]
                subst hb1
                k_with_none
                repeat (first | walk1 | (dsimp only; walk1))
                exact NoPost.intro (by assumption) (by assumption) (fun _ h => .tail _ (.tail _ (.tail _ (.tail _ (.tail _ h))))) rfl
              · rw [decide_eq_false hlast]
                k_with_none
                repeat (first | walk1 | (dsimp only; walk1))
                exact NoPost.intro (by assumption) (by assumption) (fun _ h => .tail _ (.tail _ (.tail _ (.tail _ (.tail _ h))))) rfl
          · clear lF lN
            intro hc' tkc lF lN
            k_with_none
            k_with "eval ListComp" => (refine Stop.of ?_)
            k_steps
            unfold Stop
            (rename Fr _ _ _ _ => lF); (rename News _ _ _ _ => lN)
            k_dflt (refine' LCt.ListComp_T lF ?hclos ?hcell ?hkind ?hnames ?hx ?_)
            case hclos => k_dflt rfl
            case hcell => decide
            case hkind => rfl
            case hnames => decide
            case hx => rfl
            k_with "CompSrcT" => (refine Stop.of ?_)
            k_steps
            unfold Stop
            (rename Fr _ _ _ _ => lF); (rename News _ _ _ _ => lN)
            refine LCt.CompSrcT.ledger ?hh lF lN (.head _) ?hz (fun g => ?_)
            case hh => rfl
            case hz => exact sz30 hl2
            refine filt_all (vs := vs2) (sp := st2) (ts := ts2) (keep := fun k => k != Str.ofString "ask") ?hS hS2 ?step ?fin _ 0 [] ?hi (Nat.le_refl _) .nil
            case hS => exact .inr ⟨_, .head _, rfl, _, rfl⟩
            case hi => simp
            case step =>
              clear lF lN
              intro v I oI C oC Dn m₂ h7 tk7 E' ys a9 k9 tkk9 fb9 tf9 hv9 hm9 hNs9 hx9 lF lN off9 hne9
              subst hv9
              k_with_none
              k_with "subscriptTail Name Constant ref int" => (
                (rename News _ _ _ _ => lN7);
                (k_dflt (refine tup_kind (k := k9) (tk := tkk9) (fb := fb9) (tf := tf9) lN7 ?hm ?_)); (case hm => (repeat (first | exact List.mem_append.mpr (.inl hm9) | refine List.Mem.tail _ ?_))))
              k_steps
              · exact LCg.CompEnd.intro (by assumption) (by assumption) _ (fun _ h => h) off9 (.inr ⟨_, .head _, rfl, _, rfl⟩) ⟨rfl, rfl⟩
              · exact LCg.CompEnd.intro (by assumption) (by assumption) _ (fun _ h => h) off9 (.inr ⟨_, .head _, rfl, _, rfl⟩) rfl
            case fin =>
              clear lF lN
              intro ys hys hlys D8 h8 tk8 lF lN off8
              have hfl := loop_len hSc9 hL
              rw [← hS.len] at hfl
              k_with_none
              k_with "binaryOp Add ref ref" => (
                (rename Fr _ _ _ _ => lF7); (rename News _ _ _ _ => lN7);
                (k_dflt (refine' kmk_add_lit lF7 lN7 ?ha ?hb rfl ?_ ?hz)); (case ha => exact ⟨_, (lN7 _ (.tail _ (.tail _ (.head _)))).1, rfl, _, rfl⟩); (case hb => exact ⟨_, (lN7 _ (.head _)).1, rfl, _, rfl⟩); (case hz => exact sz35 hfl hlys hl2);
                (clear lF7 lN7); (intro D6' h6' F6' N6' l6'); (try k_lt l6'))
              repeat (first | walk1 | (dsimp only; walk1))
              have hDD : @LT.lt Nat _ D2 D6' := l6'.2.1
              refine turn_end (tg := t) (nD := 0) (t1 := t12) (t2 := t22) (tb := tb2) (ta := ta2) (asked := asked2) (by assumption) (by assumption) ?hN hi hk hS hys hT3 ?g1 ?g2 ?g3 hDD hr2 hx2 hd2 ht2 h3 hoff
              case hN => exact end_sub
              case g1 => with_unfolding_all rfl
              case g2 => with_unfolding_all rfl
              case g3 =>
                intro z q1 q2 q3
                simp only [List.contains_cons, List.contains_nil, Bool.or_false, Bool.or_eq_false_iff, beq_eq_false_iff_ne, ne_eq] at q3
                simp [q1, q2, q3]
    case done =>
      clear lF lN2
      intro tg FA fvs nF fts found held u h tk hS hL lF lN
      have hfound := loop_end (sp := sp9) (tail := tail9) (by rw [cut_last]; rfl) hL
      k_with "compareOp NotEq ref ref" => (refine Stop.of ?_)
      k_steps
      unfold Stop
      (rename Fr _ _ _ _ => lF); (rename News _ _ _ _ => lN)
      k_dflt (refine steps_ne (n' := vs9.length) lN (.head _) ?m2 hS hS9.inn ?i1 ?i2 (Nat.le_of_ble_eq_true rfl) ?_)
      case m2 => exact done_sub.2.2
      case i1 => exact done_sub.1
      case i2 => exact done_sub.2.1
      rw [hfound, decide_eq_true rfl, Bool.not_true]
      have lN2 := news_none lN
      clear lN
      k_with_none
      k_with "compareOp" => (refine Stop.of ?_)
      k_with "compareOp Eq ref ref" => (refine Stop.of ?_)
      k_with "call ref" => ((with_reducible show wpAny _ _ (call (Value.ref 133) _) _ _ _); refine Stop.of ?_)
      k_steps
      unfold Stop
      (rename Fr _ _ _ _ => lF7); (rename News _ _ _ _ => lN7)
      k_dflt (refine' CallsAt.use ?k1 ?k2 ?k3 ?k4 ?k5 ?kK (steps_at _ [] _ _ ⟨?b1, ?b2, ?b3, ?b4⟩ _ _ _ _ _ _ _ _ [] lastText ?hh ?ho ?hz) ?kd ?ku ?_)
      case k2 => k_dflt (exact lF7)
      case k4 => (have q7 := lN7); k_dflt (exact q7)
      clear lF7 lN7
      case k1 => k_dflt k_asm
      case k3 => k_dflt k_asm
      case k5 => k_dflt k_asm
      case kK => first | exact rfl | assumption
      case b1 => k_ne
      case b2 => k_ne
      case b3 => exact fun _ h => nomatch h
      case b4 => exact fun _ h => nomatch h
      case hh => exact (rfl : KBw.bInts #[] = [])
      case ho => exact rfl
      case hz => decide
      case kd => k_dflt decide
      case ku => k_dflt (exact Nat.le_of_ble_eq_true rfl)
      intro D7 vs7 ts7 held7 t71 t72 t73 t74 h7 tk7 hS7 hk7 hl7 hts7 hx7 hd7 hr7 lF lN
      rw [last_one] at hS7 hk7 lN
      dsimp only at hS7 hk7 lN
      k_steps
      unfold Stop
      (rename News _ _ _ _ => lN9)
      k_dflt (refine steps_eq (n := vs7.length) (n' := 0) (ts := ts7) (sp := [(Str.ofString "ask", [])]) (sp' := [(Str.ofString "ask", [])]) lN9 ?m1 (.head _) hS7.inn ?S2 ?i1 (fun _ h => h) (Nat.le_of_ble_eq_true rfl) ?_)
      case m1 => exact .tail _ (.tail _ (.head _))
      case S2 => exact .cons (.tail _ (.head _)) rfl .nil
      case i1 => intro p hp; repeat (first | exact List.mem_append.mpr (.inl hp) | refine List.Mem.tail _ ?_)
      rw [decide_eq_true rfl]
      k_steps
      unfold Stop
      (rename Fr _ _ _ _ => lF7); (rename News _ _ _ _ => lN7)
      k_dflt (refine' CallsAt.use ?k1 ?k2 ?k3 ?k4 ?k5 ?kK (steps_at _ [] _ _ ⟨?b1, ?b2, ?b3, ?b4⟩ _ _ _ _ _ _ _ _ lastText [97] ?hh ?ho ?hz) ?kd ?ku ?_)
      case k2 => k_dflt (exact lF7)
      case k4 => (have q7 := news_sub lN7 sub_xd); k_dflt (exact q7)
      clear lF7 lN7
      case k1 => k_dflt k_asm
      case k3 => k_dflt k_asm
      case k5 => k_dflt k_asm
      case kK => first | exact rfl | assumption
      case b1 => k_ne
      case b2 => k_ne
      case b3 => exact fun _ h => nomatch h
      case b4 => exact fun _ h => nomatch h
      case hh => exact hk7
      case ho => exact rfl
      case hz => decide
      case kd => k_dflt decide
      case ku => k_dflt (exact Nat.le_of_ble_eq_true rfl)
      intro D6 vs6 ts6 held6 t61 t62 t63 t64 h6 tk6 hS6 hk6 hl6 hts6 hx6 hd6 hr6 lF lN
      rw [last_two] at hS6
      k_steps
      unfold Stop
      (rename News _ _ _ _ => lN9)
      k_dflt (refine steps_eq (n := vs6.length) (n' := 0) (ts := ts6) (ts' := []) (sp := []) (sp' := []) lN9 ?m1 (.head _) hS6.inn .nil ?i1 (fun _ h => nomatch h) (Nat.le_of_ble_eq_true rfl) ?_)
      case m1 => exact .tail _ (.head _)
      case i1 => intro p hp; repeat (first | exact List.mem_append.mpr (.inl hp) | refine List.Mem.tail _ ?_)
      rw [decide_eq_true rfl]
      k_steps
end Mine

set_option maxRecDepth 100000 in
set_option maxHeartbeats 8000000 in
theorem PySem.Challenge.cw_sa0548_01_holds : PySem.Challenge.rw_sa0548_01.Holds := by
  exact Mine.law_goes
