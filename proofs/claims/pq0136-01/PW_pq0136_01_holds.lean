import PyProof.Rows.All
import Wide.All
import OpenK.AllK
import Wide.FinOn
import Lean
import PySem.Challenge.RW_pq0136_01
open PySem PySem.Spec PySem.Calls PySem.W PyProof.Rows
set_option Elab.async false
local macro_rules | `(tactic| walk_at $s:str) => `(tactic| k_extra $s)
namespace Mine
set_option maxRecDepth 100000 in
set_option maxHeartbeats 8000000 in
open_top hd for PySem.Challenge.rw_pq0136_01
end Mine
namespace Mine
/-- what a call tells: a contract of a def of the text -/
noncomputable def Tell (w : World) (k : Nat) (f : Addr) (vs : List Value) (news : List (Addr × Obj)) (R : Value → List (Addr × Obj) → Prop) : Prop :=
  ∀ (prog : Program) (loose : List Str) (mean : ExcName → Option Value) (mg mb : Str → Option Value)
    (dp un : Nat) (gd : Option (List Code)) (cn : Str) (cs : Scope) (a : Addr) (ccd : Value) (cl : List (Str × Addr)) (outer : List Env) (A₀ : Around) (base h₀ : Heap) (L : Addr) (m : Str → Option Value) (s : Shared) (Q E : Value → Shared → Prop),
    Below A₀ base outer h₀ → Fr h₀ L s.heap m → (Mine.hd.heap_39 w.params).In h₀ → News h₀ L s.heap news → Top Mine.hd.view_39 loose mean mg mb h₀ → cs.kind = .function →
    dp + k < recursionLimit → un + 8 * k < cLine →
    (∀ v news' h' tk', R v news' → Fr h₀ L h' m → News h₀ L h' news' → Q v { s with heap := h', toks := tk' }) →
      wpAny (model prog w) (ktrTop dp un gd cn cs L a ccd cl outer) (call (.ref f) vs) Q E s
theorem room_deep {dp a b r : Nat} (h : dp + a < r) (hb : b + 1 ≤ a) : dp + 1 + b < r := Nat.lt_of_le_of_lt (by omega) h
theorem unit_deep {un a b r : Nat} (h : un + 8 * a < r) (hb : 8 * b + 3 ≤ 8 * a) : un + 3 + 8 * b < r := Nat.lt_of_le_of_lt (by omega) h
end Mine
local macro_rules | `(tactic| ktr_room) => `(tactic| exact Mine.room_deep (by assumption) (by decide))
local macro_rules | `(tactic| ktr_units) => `(tactic| exact Mine.unit_deep (by assumption) (by decide))
namespace Mine
theorem Fr.see {g h : Heap} {L : Addr} {m : Str → Option Value} {x : Str} {v : Value} (F : Fr g L h m) (e : m x = some v) : Fr g L h (fun y => if y = x then some v else m y) := by
  have : (fun y => if y = x then some v else m y) = m := by
    funext y
    by_cases q : y = x
    · rw [if_pos q, q, e]
    · rw [if_neg q]
  rw [this]
  exact F
noncomputable abbrev over (l : List (Str × Value)) (m : Str → Option Value) : Str → Option Value := l.foldr (fun p f y => if y = p.1 then some p.2 else f y) m
noncomputable def AllIn (l : List (Str × Value)) (m : Str → Option Value) : Prop := l.foldr (fun p P => m p.1 = some p.2 ∧ P) True
theorem over_is {m : Str → Option Value} : ∀ (l : List (Str × Value)), AllIn l m → over l m = m
  | [], _ => rfl
  | p :: r, e => by
    have ih := over_is r e.2
    funext y
    show (if y = p.1 then some p.2 else over r m y) = m y
    rw [ih]
    by_cases q : y = p.1
    · rw [if_pos q, q]; exact e.1.symm
    · rw [if_neg q]
theorem Fr.sees {g h : Heap} {L : Addr} {m : Str → Option Value} (l : List (Str × Value)) (F : Fr g L h m) (e : AllIn l m) : Fr g L h (over l m) := by rw [over_is l e]; exact F
/-- where the ways out of a statement meet -/
noncomputable def Joined (g : Heap) (L : Addr) (s : Shared) (news : List (Addr × Obj)) {ι : Type} (mp : ι → (Str → Option Value) → Str → Option Value) (P : ι → Prop) (f : Flow) (s' : Shared) : Prop :=
  f = .next ∧ ∃ i m' h' tk', s' = { s with heap := h', toks := tk' } ∧ Fr g L h' (mp i m') ∧ News g L h' news ∧ P i
theorem Joined.intro {g : Heap} {L : Addr} {s : Shared} {news : List (Addr × Obj)} {ι : Type} {mp : ι → (Str → Option Value) → Str → Option Value} {P : ι → Prop} {h' : Heap} {tk' : Nat} (i : ι) {m' : Str → Option Value}
    (F : Fr g L h' (mp i m')) (N : News g L h' news) (p : P i) : Joined g L s news mp P .next { s with heap := h', toks := tk' } := ⟨rfl, i, m', h', tk', rfl, F, N, p⟩
theorem join_exec {M : Program} {w : World} {A : Around} {E : Value → Shared → Prop} {Q : Flow → Shared → Prop} {s : Shared} {st : Stmt} {env : Env} {g : Heap} {L : Addr} {m : Str → Option Value} {ι : Type} (_ : Fr g L s.heap m) (news : List (Addr × Obj))
    (mp : ι → (Str → Option Value) → Str → Option Value) (P : ι → Prop) (h1 : wpAny (model M w) A (exec st env) (Joined g L s news mp P) E s)
    (h2 : ∀ i m' h' tk', Fr g L h' (mp i m') → News g L h' news → P i → Q .next { s with heap := h', toks := tk' }) : wpAny (model M w) A (exec st env) Q E s :=
  wpAny_mono h1 (fun f s' hj => by
    obtain ⟨e, i, m', h', tk', e', F, N, p⟩ := hj
    subst e e'
    exact h2 i m' h' tk' F N p) fun _ _ e => e
theorem join_execN {M : Program} {w : World} {A : Around} {E : Value → Shared → Prop} {Q : Flow → Shared → Prop} {s : Shared} {st : Stmt} {env : Env} {g : Heap} {L : Addr} {m : Str → Option Value} {news : List (Addr × Obj)} {ι : Type} (F : Fr g L s.heap m) (_ : News g L s.heap news)
    (mp : ι → (Str → Option Value) → Str → Option Value) (P : ι → Prop) (h1 : wpAny (model M w) A (exec st env) (Joined g L s news mp P) E s)
    (h2 : ∀ i m' h' tk', Fr g L h' (mp i m') → News g L h' news → P i → Q .next { s with heap := h', toks := tk' }) : wpAny (model M w) A (exec st env) Q E s :=
  join_exec F news mp P h1 h2
/-- the same, where the ledger turns too -/
noncomputable def JoinedV (g : Heap) (L : Addr) (s : Shared) {ι : Type} (nw : ι → List (Addr × Obj)) (mp : ι → (Str → Option Value) → Str → Option Value) (P : ι → Prop) (f : Flow) (s' : Shared) : Prop :=
  f = .next ∧ ∃ i m' h' tk', s' = { s with heap := h', toks := tk' } ∧ Fr g L h' (mp i m') ∧ News g L h' (nw i) ∧ P i
theorem JoinedV.intro {g : Heap} {L : Addr} {s : Shared} {ι : Type} {nw : ι → List (Addr × Obj)} {mp : ι → (Str → Option Value) → Str → Option Value} {P : ι → Prop} {h' : Heap} {tk' : Nat} (i : ι) {m' : Str → Option Value}
    (F : Fr g L h' (mp i m')) (N : News g L h' (nw i)) (p : P i) : JoinedV g L s nw mp P .next { s with heap := h', toks := tk' } := ⟨rfl, i, m', h', tk', rfl, F, N, p⟩
theorem join_execV {M : Program} {w : World} {A : Around} {E : Value → Shared → Prop} {Q : Flow → Shared → Prop} {s : Shared} {st : Stmt} {env : Env} {g : Heap} {L : Addr} {m : Str → Option Value} {ι : Type} (_ : Fr g L s.heap m) (nw : ι → List (Addr × Obj))
    (mp : ι → (Str → Option Value) → Str → Option Value) (P : ι → Prop) (h1 : wpAny (model M w) A (exec st env) (JoinedV g L s nw mp P) E s)
    (h2 : ∀ i m' h' tk', Fr g L h' (mp i m') → News g L h' (nw i) → P i → Q .next { s with heap := h', toks := tk' }) : wpAny (model M w) A (exec st env) Q E s :=
  wpAny_mono h1 (fun f s' hj => by
    obtain ⟨e, i, m', h', tk', e', F, N, p⟩ := hj
    subst e e'
    exact h2 i m' h' tk' F N p) fun _ _ e => e
end Mine
namespace Mine
/-- figures -/
noncomputable def isDig (c : Nat) : Bool := decide (48 ≤ c) && decide (c ≤ 57)
noncomputable def digs (l : List Nat) : List Nat := l.takeWhile isDig
noncomputable def val (l : List Nat) : Int := l.foldl (fun (a : Int) (c : Nat) => 10 * a + (c : Int) - 48) 0
/-- the text from a place on -/
noncomputable def from' (x : Str) (i : Int) : List Nat := x.cps.toList.drop i.toNat

theorem val_snoc (l : List Nat) (c : Nat) : val (l ++ [c]) = 10 * val l + (c : Int) - 48 := by
  simp [val, List.foldl_append]
theorem digs_split {l pre post : List Nat} (h : l = pre ++ post) (hp : ∀ c ∈ pre, isDig c = true) (hq : ∀ c r, post = c :: r → isDig c = false) : digs l = pre := by
  subst h
  unfold digs
  induction pre with
  | nil =>
    cases post with
    | nil => rfl
    | cons c r => simp [hq c r rfl]
  | cons a t ih =>
    rw [List.cons_append, List.takeWhile_cons, hp a (.head _)]
    simp only [if_true]
    rw [ih fun c hc => hp c (.tail _ hc)]
theorem item_eq {x : Str} {i j : Int} {pre post : List Nat} {c : Nat} (h0 : 0 ≤ i) (h : from' x i = pre ++ c :: post) (hj : j = i + pre.length) : Txt.item x j = ⟨#[c]⟩ := by
  have hl : x.cps.toList[i.toNat + pre.length]? = some c := by
    have := congrArg (fun l => l[pre.length]?) h
    simpa [from', List.getElem?_drop] using this
  have hj' : j.toNat = i.toNat + pre.length := by rw [hj, Int.toNat_add h0 (Int.natCast_nonneg _), Int.toNat_natCast]
  rw [← hj'] at hl
  exact PyProof.Rows.item_meets (by rw [hj]; exact Int.add_nonneg h0 (Int.natCast_nonneg _)) (by simpa using hl)

noncomputable def RunInv (x : Str) (i found j : Int) : Prop := 0 ≤ i ∧ ∃ pre post, from' x i = pre ++ post ∧ (∀ c ∈ pre, isDig c = true) ∧ j = i + pre.length ∧ found = val pre

theorem from_length {x : Str} {i : Int} : (from' x i).length = x.length - i.toNat := by
  show (x.cps.toList.drop i.toNat).length = x.cps.size - i.toNat
  simp

theorem lt_lit {c d : Nat} : ((⟨#[c]⟩ : Str).cps.toList < (⟨#[d]⟩ : Str).cps.toList) ↔ c < d := by
  show ([c] < [d]) ↔ c < d
  rw [List.cons_lt_cons_iff]
  constructor
  · rintro (h | ⟨_, h⟩)
    · exact h
    · cases h
  · exact Or.inl
theorem run_start {x : Str} {i : Int} (h : 0 ≤ i) : RunInv x i 0 i := ⟨h, [], _, rfl, by simp, by simp, rfl⟩
theorem run_turn {x : Str} {i found j : Int} (inv : RunInv x i found j) (hlt : j < x.length)
    (h0 : ¬ (Txt.item x j).cps.toList < (Str.ofString "0").cps.toList) (h9 : ¬ (Str.ofString "9").cps.toList < (Txt.item x j).cps.toList) :
    RunInv x i (10 * found + ((Txt.item x j).cps.getD 0 0 : Nat) - 48) (j + 1) := by
  obtain ⟨hi, pre, post, hs, hd, hj, hf⟩ := inv
  cases post with
  | nil =>
    have := congrArg List.length hs
    rw [from_length] at this
    simp at this
    omega
  | cons c r =>
    have hit := item_eq hi hs hj
    rw [hit] at h0 h9 ⊢
    rw [show Str.ofString "0" = ⟨#[48]⟩ from by decide +kernel, lt_lit] at h0
    rw [show Str.ofString "9" = ⟨#[57]⟩ from by decide +kernel, lt_lit] at h9
    refine ⟨hi, pre ++ [c], r, by rw [hs, List.append_assoc]; rfl, fun d hd' => ?_, by rw [hj]; simp; omega, by rw [val_snoc, hf]; rfl⟩
    rcases List.mem_append.mp hd' with q | q
    · exact hd d q
    · rw [List.mem_singleton.mp q]; simp [isDig]; omega
noncomputable def RunOut (x : Str) (i found j : Int) : Prop := found = val (digs (from' x i)) ∧ j = i + (digs (from' x i)).length
theorem run_exit {x : Str} {i found j : Int} (inv : RunInv x i found j)
    (h : ¬ j < x.length ∨ (Txt.item x j).cps.toList < (Str.ofString "0").cps.toList ∨ (Str.ofString "9").cps.toList < (Txt.item x j).cps.toList) : RunOut x i found j := by
  obtain ⟨hi, pre, post, hs, hd, hj, hf⟩ := inv
  have hq : ∀ c r, post = c :: r → isDig c = false := by
    rintro c r rfl
    have hl := congrArg List.length hs
    rw [from_length] at hl
    simp at hl
    have hit := item_eq hi hs hj
    rcases h with h | h | h
    · omega
    · rw [hit, show Str.ofString "0" = ⟨#[48]⟩ from by decide +kernel, lt_lit] at h
      simp [isDig]; omega
    · rw [hit, show Str.ofString "9" = ⟨#[57]⟩ from by decide +kernel, lt_lit] at h
      simp [isDig]; omega
  have := digs_split hs hd hq
  exact ⟨by rw [this, hf], by rw [this, hj]⟩
theorem drop1 {h₀ h : Heap} {L : Addr} {p q : Addr × Obj} {news : List (Addr × Obj)} (N : News h₀ L h (p :: q :: news)) : News h₀ L h (p :: news) :=
  fun r hr => N r (by
    rcases List.mem_cons.mp hr with rfl | hr
    · exact .head _
    · exact .tail _ (.tail _ hr))
theorem drop0 {h₀ h : Heap} {L : Addr} {q : Addr × Obj} {news : List (Addr × Obj)} (N : News h₀ L h (q :: news)) : News h₀ L h news := fun r hr => N r (.tail _ hr)
theorem toNat_lt {a b : Int} (h : a < b) (h0 : 0 < b) : a.toNat < b.toNat := (Int.toNat_lt_toNat h0).mpr h
theorem run_measure {x : Str} {j : Int} (hlt : j < x.length) : ((x.length : Int) - (j + 1)).toNat < ((x.length : Int) - j).toNat := toNat_lt (by omega) (by omega)
theorem run_ends {x : Str} {i a b c : Int} (h0 : 0 ≤ i) (h1 : i ≤ x.length) (hx : x.length ≤ 100)
    (h : a = val (digs (from' x i)) ∧ b = (digs (from' x i)).length ∧ c = i + (digs (from' x i)).length) :
    a = val (digs (from' x i)) ∧ b = (digs (from' x i)).length ∧ c = i + (digs (from' x i)).length ∧ 0 ≤ b ∧ b ≤ 100 ∧ 0 ≤ c ∧ c ≤ x.length := by
  have hl : (digs (from' x i)).length ≤ (from' x i).length := by
    unfold digs
    generalize from' x i = l
    induction l with
    | nil => simp
    | cons a t ih =>
      rw [List.takeWhile_cons]
      split <;> simp <;> omega
  rw [from_length] at hl
  have hl2 : i + ((digs (from' x i)).length : Int) ≤ x.length := by omega
  obtain ⟨e1, e2, e3⟩ := h
  rw [← e2] at hl2 e3
  rw [← e3] at hl2
  have h4 : 0 ≤ b := by rw [e2]; exact Int.natCast_nonneg _
  have h5 : 0 ≤ c := by rw [e3]; exact Int.add_nonneg h0 h4
  refine ⟨e1, e2, by rw [← e2]; exact e3, h4, ?_, h5, hl2⟩
  clear e1 e2 hl h4 h5 h1
  omega
end Mine
namespace Mine
/-- how many figures a plain number has -/
noncomputable def figs (n : Nat) : Nat := if n < 10 then 1 else figs (n / 10) + 1
theorem figs_pos (n : Nat) : 1 ≤ figs n := by unfold figs; split <;> omega
theorem figs_lt (n : Nat) : n < 10 ^ figs n := by
  induction n using Nat.strongRecOn with
  | ind n ih =>
    unfold figs
    split
    · omega
    · have := ih (n / 10) (by omega)
      rw [Nat.pow_succ]
      omega
theorem figs_le (n : Nat) : figs n = 1 ∨ 10 ^ (figs n - 1) ≤ n := by
  induction n using Nat.strongRecOn with
  | ind n ih =>
    unfold figs
    split
    · exact .inl rfl
    · right
      rw [Nat.add_sub_cancel]
      rcases ih (n / 10) (by omega) with h | h
      · rw [h]; omega
      · have : figs (n / 10) = (figs (n / 10) - 1) + 1 := by have := figs_pos (n / 10); omega
        rw [this, Nat.pow_succ]
        omega
theorem figs_unique {n k : Nat} (h1 : n < 10 ^ (k + 1)) (h2 : k = 0 ∨ 10 ^ k ≤ n) : figs n = k + 1 := by
  have a1 := figs_lt n
  have a2 := figs_le n
  have hp := figs_pos n
  by_cases c : figs n ≤ k
  · have : k ≠ 0 := by omega
    have h2' : 10 ^ k ≤ n := by omega
    have := Nat.pow_le_pow_right (show 0 < 10 by decide) c
    omega
  · by_cases c' : k + 1 < figs n
    · have a2' : 10 ^ (figs n - 1) ≤ n := by omega
      have := Nat.pow_le_pow_right (show 0 < 10 by decide) (show k + 1 ≤ figs n - 1 by omega)
      omega
    · omega
noncomputable def FigInv (n many bound : Int) : Prop := ∃ k : Nat, many = k + 1 ∧ bound = ((10 ^ (k + 1) : Nat) : Int) ∧ (k = 0 ∨ ((10 ^ k : Nat) : Int) ≤ n)
theorem fig_start {n : Int} : FigInv n 1 10 := ⟨0, rfl, rfl, .inl rfl⟩
theorem fig_turn {n many bound : Int} (inv : FigInv n many bound) (h : bound ≤ n) : FigInv n (many + 1) (bound * 10) := by
  obtain ⟨k, h1, h2, h3⟩ := inv
  refine ⟨k + 1, by omega, by rw [h2, Nat.pow_succ 10 (k + 1)]; simp, .inr (h2 ▸ h)⟩
theorem fig_pos {n many bound : Int} (inv : FigInv n many bound) : 1 ≤ bound := by
  obtain ⟨k, h1, h2, h3⟩ := inv
  have := Nat.pow_pos (n := k + 1) (show 0 < 10 by decide)
  omega
theorem fig_measure {n many bound : Int} (inv : FigInv n many bound) (h : bound ≤ n) : (n + 1 - bound * 10).toNat < (n + 1 - bound).toNat := by
  have := fig_pos inv
  exact toNat_lt (by omega) (by omega)
theorem fig_exit {n many bound : Int} (h0 : 0 ≤ n) (inv : FigInv n many bound) (h : ¬ bound ≤ n) : many = (figs n.toNat : Nat) := by
  obtain ⟨k, h1, h2, h3⟩ := inv
  have := figs_unique (n := n.toNat) (k := k) (by omega) (by omega)
  omega
/-- a plain number without p figures at its end, half to even -/
noncomputable def rnd (n : Int) (p : Nat) : Int := if 10 ^ p < 2 * n.fmod (10 ^ p) ∨ (2 * n.fmod (10 ^ p) = 10 ^ p ∧ (n.fdiv (10 ^ p)).fmod 2 = 1) then n.fdiv (10 ^ p) + 1 else n.fdiv (10 ^ p)
theorem rnd1 {n : Int} {p : Nat} (h : 10 ^ p < 2 * n.fmod (10 ^ p)) : n.fdiv (10 ^ p) + 1 = rnd n p := (if_pos (Or.inl h)).symm
theorem rnd2 {n : Int} {p : Nat} (h : 2 * n.fmod (10 ^ p) = 10 ^ p) (h2 : (n.fdiv (10 ^ p)).fmod 2 = 1) : n.fdiv (10 ^ p) + 1 = rnd n p := (if_pos (Or.inr ⟨h, h2⟩)).symm
theorem rnd3 {n : Int} {p : Nat} (h0 : ¬ 10 ^ p < 2 * n.fmod (10 ^ p)) (h2 : (n.fdiv (10 ^ p)).fmod 2 ≠ 1) : n.fdiv (10 ^ p) = rnd n p := (if_neg (fun q => q.elim h0 fun q => h2 q.2)).symm
theorem rnd4 {n : Int} {p : Nat} (h0 : ¬ 10 ^ p < 2 * n.fmod (10 ^ p)) (h : 2 * n.fmod (10 ^ p) ≠ 10 ^ p) : n.fdiv (10 ^ p) = rnd n p := (if_neg (fun q => q.elim h0 fun q => h q.1)).symm
end Mine
namespace Mine
set_option maxRecDepth 100000 in
set_option maxHeartbeats 8000000 in
theorem figs_tell (w : World) (n : Int) (t : Tok) (h0 : 0 ≤ n) (news : List (Addr × Obj)) :
    Tell w 1 44 [.int n t] news (fun v news' => ∃ a t', (v = .int a t' ∧ news' = news) ∧ a = (figs n.toNat : Nat)) := by
  unfold Tell
  intro prog loose mean mg mb dp un gd cn cs a ccd cl outer A₀ base h₀ L m s Q E B F X N T hk hd hu hret
  refine wpAny_call ?_
  k_dflt cell_enter
  k_with_none
  k_with "MINE to while" => (repeat' ((fail_if_success (with_reducible show wpAny _ _ (exec (Stmt.While _ _ _ _) _) _ _ _)); walk1))
  k_with "state" => ((try dsimp only); first | exact fig_start | exact fig_turn (by assumption) (by assumption))
  k_with "measure" => exact fig_measure (by assumption) (by assumption)
  walk_at "MINE to while"
  k_while (fun _ many bound => FigInv n many bound) (fun _ many bound => (n + 1 - bound).toNat) "many" "bound"
  k_steps
  all_goals exact hret _ _ _ _ ⟨_, _, ⟨rfl, rfl⟩, fig_exit h0 (by assumption) (by assumption)⟩ (by assumption) (drop0 (by assumption))
end Mine
namespace Mine
theorem Tell.use {w : World} {k : Nat} {f : Addr} {vs : List Value} {news : List (Addr × Obj)} {R : Value → List (Addr × Obj) → Prop} (C : Tell w k f vs news R)
    {prog : Program} {loose : List Str} {mean : ExcName → Option Value} {mg mb : Str → Option Value}
    {dp un : Nat} {gd : Option (List Code)} {cn : Str} {cs : Scope} {a : Addr} {ccd : Value} {cl : List (Str × Addr)} {outer : List Env} {A₀ : Around} {base h₀ : Heap} {L : Addr} {m : Str → Option Value} {s : Shared} {Q E : Value → Shared → Prop}
    (B : Below A₀ base outer h₀) (F : Fr h₀ L s.heap m) (X : (Mine.hd.heap_39 w.params).In h₀) (N : News h₀ L s.heap news) (T : Top Mine.hd.view_39 loose mean mg mb h₀) (hk : cs.kind = .function)
    (hd : dp + k < recursionLimit) (hu : un + 8 * k < cLine)
    (ret : ∀ v news' h' tk', R v news' → Fr h₀ L h' m → News h₀ L h' news' → Q v { s with heap := h', toks := tk' }) :
    wpAny (model prog w) (ktrTop dp un gd cn cs L a ccd cl outer) (call (.ref f) vs) Q E s :=
  C prog loose mean mg mb dp un gd cn cs a ccd cl outer A₀ base h₀ L m s Q E B F X N T hk hd hu ret
theorem pow_tell {M : Program} {w : World} {A : Around} {E : Value → Shared → Prop} {s : Shared} {n : Int} {t u : Tok} {Q : Value → Shared → Prop} (hn : 0 ≤ n) (hs : n ≤ 1000000)
    (h : Q (.int (10 ^ n.toNat) s.toks) { s with toks := s.toks + 1 }) : wpAny (model M w) A (binaryOp .Pow (.int 10 t) (.int n u)) Q E s :=
  pow_int_small hn hs (by decide) h
theorem pow10_ne (k : Nat) : (10 : Int) ^ k ≠ 0 := Int.pow_ne_zero (by decide)
theorem pow10_nat (k : Nat) : (10 : Int) ^ k = ((10 ^ k : Nat) : Int) := by simp
theorem pow10_log {k : Nat} (h : k ≤ 1000) : ((10 : Int) ^ k).natAbs.log2 < 9000 := by
  rw [pow10_nat, Int.natAbs_natCast]
  have h0 : 10 ^ k ≠ 0 := Nat.pos_iff_ne_zero.mp (Nat.pow_pos (by decide))
  rw [Nat.log2_lt h0]
  have h1 : 10 ^ k ≤ (2 ^ 4) ^ k := Nat.pow_le_pow_left (by decide) k
  rw [← Nat.pow_mul] at h1
  have h2 : 2 ^ (4 * k) ≤ 2 ^ 4000 := Nat.pow_le_pow_right (by decide) (by omega)
  have h3 : 2 ^ 4000 < 2 ^ 9000 := Nat.pow_lt_pow_right (by decide) (by omega)
  exact Nat.lt_of_le_of_lt (Nat.le_trans h1 h2) h3
theorem div10_tell {M : Program} {w : World} {A : Around} {E : Value → Shared → Prop} {s : Shared} {n : Int} {k : Nat} {t u : Tok} {Q : Value → Shared → Prop} (hk : k ≤ 1000)
    (h : Q (.int (n.fdiv (10 ^ k)) s.toks) { s with toks := s.toks + 1 }) : wpAny (model M w) A (binaryOp .FloorDiv (.int n t) (.int (10 ^ k) u)) Q E s :=
  floordiv_int (pow10_ne k) h (Or.inl (PyProof.noPylong_of_log2 (pow10_log hk)))
theorem mod10_tell {M : Program} {w : World} {A : Around} {E : Value → Shared → Prop} {s : Shared} {n : Int} {k : Nat} {t u : Tok} {Q : Value → Shared → Prop} (_ : k ≤ 1000)
    (h : Q (.int (n.fmod (10 ^ k)) s.toks) { s with toks := s.toks + 1 }) : wpAny (model M w) A (binaryOp .Mod (.int n t) (.int (10 ^ k) u)) Q E s :=
  mod_int' (pow10_ne k) h
end Mine
namespace Mine
set_option maxRecDepth 100000 in
set_option maxHeartbeats 8000000 in
theorem round_tell (w : World) (n : Int) (t : Tok) (p : Int) (tp : Tok) (h0 : 0 ≤ n) (hp : 1 ≤ p) (hp2 : p ≤ figs n.toNat) (hp3 : p ≤ 1000) (news : List (Addr × Obj)) :
    Tell w 2 51 [.int n t, .int p tp] news (fun v news' => ∃ a t', (v = .int a t' ∧ news' = news) ∧ a = rnd n p.toNat) := by
  unfold Tell
  intro prog loose mean mg mb dp un gd cn cs a ccd cl outer A₀ base h₀ L m s Q E B F X N T hk hd hu hret
  refine wpAny_call ?_
  k_dflt cell_enter
  k_with_none
  k_with "call ref" => (k_here; (with_reducible show wpAny _ _ (call (Value.ref 44) [Value.int _ _]) _ _ _); k_dflt (refine' Tell.use (figs_tell _ _ _ ?p1 _) ?k1 ?k2 ?k3 ?k4 ?k5 ?kK ?kd ?ku ?kR; (case k1 => k_asm); (case k2 => k_asm); (case k3 => k_asm); (case k4 => k_asm); (case k5 => k_asm); (case kK => exact rfl); (case p1 => omega); (case kd => ktr_room); (case ku => ktr_units)); intro v9 news9 h9 tk9 hR9 F9 N9; obtain ⟨a9, t9, ⟨hv9, hn9⟩, e9⟩ := hR9; subst hv9 hn9; (try dsimp only))
  k_with "binaryOp FloorDiv int int" => (k_here; (with_reducible refine div10_tell ?hs ?_); (case hs => omega); (try dsimp only))
  k_with "binaryOp Mod int int" => (k_here; (with_reducible refine mod10_tell ?hs ?_); (case hs => omega); (try dsimp only))
  k_steps
  all_goals exact hret _ _ _ _ ⟨_, _, ⟨rfl, rfl⟩, by first | exact rnd1 (by assumption) | exact rnd2 (by assumption) (by assumption) | exact rnd3 (by assumption) (by assumption) | exact rnd4 (by assumption) (by assumption)⟩ (by assumption) (drop0 (by assumption))
end Mine
namespace Mine
noncomputable def DictKept (h h' : Heap) : Prop := ∀ b o, h.get? b = some o → ∃ o', h'.get? b = some o' ∧ o'.dict = o.dict
theorem DictKept.refl (h : Heap) : DictKept h h := fun _ o e => ⟨o, e, rfl⟩
theorem DictKept.trans {a b c : Heap} (x : DictKept a b) (y : DictKept b c) : DictKept a c := fun n o e =>
  let ⟨o', e', d'⟩ := x n o e; let ⟨o'', e'', d''⟩ := y n o' e'; ⟨o'', e'', d''.trans d'⟩
/-- a tree that calls nothing and leaves each object's dict where it is -/
noncomputable def Quiet {α : Type} : Sem α → Prop
  | .pure _ => True
  | .raise _ => True
  | .unsupported _ => True
  | .finish _ => True
  | .rule _ k => Quiet (k ())
  | .at _ k => Quiet (k ())
  | .load _ _ k => ∀ o, Quiet (k o)
  | .update _ _ f k => (∀ o, (f o).dict = o.dict ∧ (f o).isFreed = o.isFreed) ∧ Quiet (k ())
  | .alloc _ k => ∀ a, Quiet (k a)
  | .loadIfAlive _ k => ∀ o, Quiet (k o)
  | .point _ k => Quiet (k ())
  | .fresh k => ∀ t, Quiet (k t)
  | .ask k => ∀ x, Quiet (k x)
  | .handled _ k => ∀ v, Quiet (k v)
  | .stack k => ∀ l, Quiet (k l)
  | _ => False
theorem Quiet.bind {α β : Type} {m : Sem α} {f : α → Sem β} (h : Quiet m) (k : ∀ a, Quiet (f a)) : Quiet (m.bind f) := by
  induction m with
  | pure a => exact k a
  | raise | unsupported | finish => exact trivial
  | rule _ _ ih | «at» _ _ ih | point _ _ ih => exact ih () h
  | load _ _ _ ih | alloc _ _ ih | loadIfAlive _ _ ih | fresh _ ih | ask _ ih | handled _ _ ih | stack _ ih => exact fun o => ih o (h o)
  | update _ _ _ _ ih => exact ⟨h.1, ih () h.2⟩
  | _ => exact h.elim
theorem Quiet.bind' {α β : Type} {m : Sem α} {f : α → Sem β} (h : Quiet m) (k : ∀ a, Quiet (f a)) : Quiet (m >>= f) := Quiet.bind h k
theorem quiet_wp {α : Type} {M : Model} {Γ : PySem.Ctx} {t : Sem α} {Q : α → Pos → Shared → Prop} {E : Value → Pos → Shared → Prop} {p : Pos} {s : Shared} (q : Quiet t) (h : Sem.wp M Γ t Q E p s) :
    Sem.wp M Γ t (fun a p' s' => Q a p' s' ∧ DictKept s.heap s'.heap) (fun e p' s' => E e p' s' ∧ DictKept s.heap s'.heap) p s := by
  suffices H : ∀ (h₀ : Heap) (p : Pos) (s : Shared), DictKept h₀ s.heap → Sem.wp M Γ t Q E p s → Sem.wp M Γ t (fun a p' s' => Q a p' s' ∧ DictKept h₀ s'.heap) (fun e p' s' => E e p' s' ∧ DictKept h₀ s'.heap) p s from
    H s.heap p s (.refl _) h
  clear h p s
  intro h₀
  induction t with
  | pure a => intro p s k h; exact ⟨h, k⟩
  | raise e => intro p s k h; exact ⟨h, k⟩
  | unsupported | finish => intro p s k h; exact h
  | rule _ _ ih | «at» _ _ ih | point _ _ ih => intro p s k h; exact ih () q _ _ k h
  | load _ _ _ ih => intro p s k h; obtain ⟨o, ho, h⟩ := h; exact ⟨o, ho, ih o (q o) _ _ k h⟩
  | alloc o _ ih => intro p s k h; exact ih _ (q _) _ _ (k.trans fun b o' e => ⟨o', Heap.get?_push_of_some _ e, rfl⟩) h
  | loadIfAlive _ _ ih | fresh _ ih | ask _ ih | handled _ _ ih | stack _ ih => intro p s k h; exact ih _ (q _) _ _ k h
  | update a _ f _ ih =>
    intro p s k h
    refine ⟨h.1, ih () q.2 _ _ (k.trans fun b o e => ?_) h.2⟩
    by_cases hb : a = b
    · subst hb
      exact ⟨f o, Heap.get?_update_self f e (by rw [(q.1 o).2]; exact (Heap.get?_some_iff.mp e).2), (q.1 o).1⟩
    · exact ⟨o, (Heap.get?_update_other _ _ hb).trans e, rfl⟩
  | _ => exact q.elim
theorem quiet_any {α : Type} {M : Model} {A : Around} {t : Sem α} {Q : α → Shared → Prop} {E : Value → Shared → Prop} {s : Shared} (q : Quiet t) (h : wpAny M A t Q E s) :
    wpAny M A t (fun a s' => Q a s' ∧ DictKept s.heap s'.heap) (fun e s' => E e s' ∧ DictKept s.heap s'.heap) s := fun Γ p hΓ => quiet_wp q (h Γ p hΓ)

theorem freed_map (f : Array Value → Array Value) (o : Obj) : (Obj.mapFields f o).dict = o.dict ∧ (Obj.mapFields f o).isFreed = o.isFreed := by
  obtain ⟨c, d, dt, s⟩ := o
  cases dt <;> exact ⟨rfl, rfl⟩
theorem quiet_load {a : Addr} : Quiet (load a) := fun _ => trivial
theorem quiet_loadPart {a : Addr} {p : Option Value} : Quiet (loadPart a p) := fun _ => trivial
theorem quiet_fieldsOf (v : Value) : Quiet (fieldsOf v) := by
  unfold fieldsOf
  cases v <;> try exact trivial
  refine Quiet.bind' quiet_load fun o => ?_
  split <;> exact trivial
theorem quiet_field (v : Value) (i : Nat) : Quiet (field v i) := by
  unfold field
  refine Quiet.bind' (quiet_fieldsOf v) fun o => ?_
  split <;> exact trivial
theorem quiet_setField (v : Value) (i : Nat) (x : Value) : Quiet (setField v i x) := by
  unfold setField
  cases v <;> try exact trivial
  unfold updateField
  refine Quiet.bind' quiet_load fun o => ?_
  split
  · split
    · exact ⟨freed_map _, trivial⟩
    · exact trivial
  · exact trivial
theorem quiet_setFlight (e : Value) (f : Option Addr) : Quiet (setFlight e f) := by
  unfold setFlight
  refine Quiet.bind' (quiet_field _ _) fun tb => ?_
  split
  · exact quiet_setField _ _ _
  · exact trivial
theorem quiet_imp (env : Env) (outer : List Env) : Quiet (behindIsImport env outer) := by
  unfold behindIsImport
  split
  · exact trivial
  split
  · exact trivial
  exact Quiet.bind' (quiet_field _ _) fun _ => trivial
theorem quiet_back (env : Env) (i : Bool) (outer : List Env) : Quiet (keptBack env i outer) := by
  unfold keptBack
  split
  · split
    · exact trivial
    · refine Quiet.bind' ?_ fun _ => trivial
      unfold underTheClaimsCaller
      exact Quiet.bind' (fun _ => trivial) fun _ => trivial
  · exact trivial
theorem quiet_ready : ∀ l : List Env, Quiet (readyFrames l)
  | [] => trivial
  | env :: outer => by
    unfold readyFrames
    split
    · refine Quiet.bind' quiet_load fun o => ?_
      split
      · exact trivial
      refine Quiet.bind' (quiet_imp _ _) fun i => Quiet.bind' (quiet_back _ _ _) fun b => ?_
      exact Quiet.bind' ⟨fun o => ⟨rfl, by obtain ⟨c, d, dt, sl⟩ := o; cases dt <;> rfl⟩, trivial⟩ fun _ => quiet_ready outer
    · exact trivial
theorem quiet_frameOf (env : Env) : Quiet (PySem.frameOf env) := by
  unfold PySem.frameOf
  refine Quiet.bind' ?_ fun es => ?_
  · unfold frameEnvs
    exact Quiet.bind' (fun _ => trivial) fun _ => trivial
  refine Quiet.bind' ?_ fun r => ?_
  · unfold frameObject
    split
    · exact trivial
    · exact Quiet.bind' (quiet_ready _) fun _ => trivial
  · split <;> exact trivial
theorem quiet_newFields (ty : String) (vs : List Value) : Quiet (newFields ty vs) := by
  unfold newFields newObj newObjAsIs
  dsimp only
  split
  · exact trivial
  · exact fun _ => trivial
theorem quiet_entryPlace (f : Addr) (b : Bool) : Quiet (entryPlaceOf f b) := by
  unfold entryPlaceOf
  refine Quiet.bind' (fun _ => trivial) fun acts => ?_
  split <;> exact trivial
theorem quiet_newEntry (a b c d e : Value) (pl : List Value) : Quiet (EntryCells.newEntry a b c d e pl) := quiet_newFields _ _
theorem quiet_noteFrame (e : Value) (env : Env) : Quiet (noteFrame e env) := by
  unfold noteFrame
  split
  · rename_i f hf
    refine Quiet.bind' (quiet_field _ _) fun head => ?_
    have last : Quiet (do let a ← PySem.frameOf env; let pl ← entryPlaceOf f (head != Value.none); let b ← EntryCells.newEntry head a .none (rawInt f) .none pl; setField e 1 b) :=
      Quiet.bind' (quiet_frameOf _) fun a => Quiet.bind' (quiet_entryPlace _ _) fun pl => Quiet.bind' (quiet_newEntry _ _ _ _ _ _) fun b => quiet_setField _ _ _
    split
    · refine Quiet.bind' (quiet_field _ _) fun x => ?_
      split
      · exact trivial
      · exact Quiet.bind' (quiet_setField _ _ _) fun _ => last
    · exact last
  · exact trivial
theorem quiet_leaving (env : Env) (e : Value) : Quiet (leaving env e) := Quiet.bind' (quiet_noteFrame _ _) fun _ => quiet_setFlight _ _
end Mine
namespace Mine
set_option maxRecDepth 100000
theorem own_init : classOwn (.type "Exception") (Str.ofString "__init__") = pure (some (.builtin "Exception.__init__")) := by
  show (pure (builtinOwn "Exception" _) : Sem (Option Value)) = _
  rw [builtinOwn_eq_fast]; kernel_rfl
theorem wd_get : Slot "wrapper_descriptor" "__get__" "wrapper_descriptor.__get__" :=
  .of (owner := "wrapper_descriptor") (n := "__get__") (by rw [typeLookup_type, builtinLookup_eq_fast]; kernel_rfl) (by decide +kernel) (by decide +kernel) (by decide +kernel)
    (by first | exact .inl (by decide +kernel) | exact .inr (by decide +kernel)) (by rw [isSubtype_type]; kernel_rfl)
theorem wd_entry : entryFor table "wrapper_descriptor.__get__" = some Builtin.«wrapper_descriptor.__get__» := entryFor_of_tree (by kernel_rfl)
theorem wd_args (a b c : Value) : argsOk "wrapper_descriptor.__get__" ⟨[a, b, c], []⟩ := by unfold argsOk; kernel_rfl
theorem wd_type : typeOf (.builtin "Exception.__init__") = pure (.type "wrapper_descriptor") := by show builtinType _ = _; rw [builtinType_eq_fast]; kernel_rfl

noncomputable abbrev basicCls : Obj := excClassObj (Str.ofString "BasicError") (Str.ofString "BasicError") 34 33 [.type "Exception"] [.type "Exception", .type "BaseException", .type "object"] true [] [] false none none (some (.ref 15)) none (some (.str (Str.ofString "BasicError") 191)) (some (.str (Str.ofString "BasicError") 199)) (some (.bool true)) "Exception.__new__"
theorem basic_at (w : World) : (Mine.hd.heap_39 w.params).lookup 34 = some basicCls := by rfl
noncomputable abbrev excMro : List Value := [.ref 34, .type "Exception", .type "BaseException", .type "object"]
section
variable {prog : Program} {w : World} {A : Around} {E : Value → Shared → Prop} {h : Heap} {g : Array GenState} {d : Drawn} {t : Nat} {os : OsState}
theorem mro34 (X : (Mine.hd.heap_39 w.params).In h) : Looks (model prog w) h (mroOf (.ref 34)) excMro := by
  obtain ⟨cd, hc, hm⟩ : ∃ cd, clsIn (Mine.hd.heap_39 w.params) 34 = some cd ∧ cd.mro = excMro := ⟨_, by k_is, rfl⟩
  exact fun A Q E s k q => wpAny_bind ((looks_clsIn X hc) A _ E s k (wpAny_pure (by rw [hm]; exact q)))
set_option maxHeartbeats 1000000 in
theorem ga_super {so e : Addr} {oe : Obj} {tk : Tok} {Q : Fin → Shared → Prop} (X : (Mine.hd.heap_39 w.params).In h)
    (hso : h.get? so = some { cls := .type "super", dict := none, data := .fields #[.ref 34, .ref e, .ref 34], slots := #[] }) (he : h.get? e = some oe) (hec : oe.cls = .ref 34) (hne : e ≠ 34)
    (hq : Q (.done (.ret (.ref h.objs.size))) ⟨h.push { cls := .type "method-wrapper", data := .fields #[.builtin "Exception.__init__", .ref e] }, g, d, t, os⟩) :
    wpAny (model prog w) A (Builtin.«super.__getattribute__» ⟨[.ref so, .str (Str.ofString "__init__") tk], []⟩) Q E ⟨h, g, d, t, os⟩ := by
  have hlk := wd_get.lookup
  have hty := wd_type
  have hne' : (Value.ref e == Value.ref 34) = false := by simp [hne]
  have hdt : ({ cls := .type "super", dict := none, data := .fields #[.ref 34, .ref e, .ref 34], slots := #[] } : Obj).data = .fields #[.ref 34, .ref e, .ref 34] := rfl
  have f0 : (#[.ref 34, .ref e, .ref 34] : Array Value)[0]? = some (.ref 34) := rfl
  have f1 : (#[.ref 34, .ref e, .ref 34] : Array Value)[1]? = some (.ref e) := rfl
  have f2 : (#[.ref 34, .ref e, .ref 34] : Array Value)[2]? = some (.ref 34) := rfl
  have hf : alongIn (Mine.hd.heap_39 w.params) (Str.ofString "__init__") [.type "Exception", .type "BaseException", .type "object"] = some (some (.builtin "Exception.__init__")) := by kernel_rfl
  have hl : (excMro.dropWhile (· != .ref 34)).drop 1 = [.type "Exception", .type "BaseException", .type "object"] := by decide +kernel
  have hn : (Str.ofString "__init__" == ("__class__" : Str)) = false := by decide +kernel
  have hno : Looks (model prog w) h (opaqueClassAbove (.ref 34)) none := looks_opaque X (by k_is)
  have hT : (⟨h, g, d, t, os⟩ : Shared).TypeIs (.builtin "Exception.__init__") "wrapper_descriptor" := wd_type
  unfold Builtin.«super.__getattribute__»
  iterate 20 (first
    | (with_reducible refine wpAny_field hso hdt f0 ?_) | (with_reducible refine wpAny_field hso hdt f1 ?_) | (with_reducible refine wpAny_field hso hdt f2 ?_)
    | (with_reducible refine ks_wpAny_notOpaque hno ?_)
    | (simp only [hn, hne', Bool.or_false, Bool.false_eq_true, if_false])
    | wp_step)
  refine wpAny_bind (Looks.at (mro34 X) ?_)
  rw [hl]
  rw [List.forIn_cons]
  refine wpAny_bind (wpAny_bind (wpAny_bind (wpAny_of_eq own_init ?_)))
  dsimp only
  refine wpAny_bind (wpAny_of_eq wd_type ?_)
  refine wpAny_bind (wpAny_of_eq wd_get.lookup ?_)
  dsimp only
  refine wpAny_bind (wpAny_holding ?_)
  refine wpAny_call_entry wd_get hT wd_entry ?_ (wd_args _ _ _)
  unfold Builtin.«wrapper_descriptor.__get__»
  have hC := X _ _ (basic_at w)
  have hcE : (Value.ref 34 :: [.type "Exception", .type "BaseException", .type "object"]).contains (.type "Exception") = true := by decide +kernel
  repeat (first
    | (with_reducible refine wpAny_loadPart_at he ?_; rw [hec])
    | (with_reducible refine wpAny_isSubtype_exc hC ?_; rw [hcE])
    | wp_step)
  rw [show ".".intercalate ("Exception.__init__".cutAt '.').dropLast = "Exception" from by decide +kernel]
  repeat (first
    | (with_reducible refine wpAny_loadPart_at he ?_; rw [hec])
    | (with_reducible refine wpAny_isSubtype_exc hC ?_; rw [hcE])
    | wp_step)
  refine ⟨_, rfl, ?_⟩
  repeat wp_step
  exact hq
theorem ga_args (o a : Value) : argsOk "super.__getattribute__" ⟨[o, a], []⟩ := by unfold argsOk; kernel_rfl
theorem method_super {so e : Addr} {oe : Obj} {pl : Sem Bool} {Q : Value × List Value → Shared → Prop} (X : (Mine.hd.heap_39 w.params).In h)
    (hso : h.get? so = some { cls := .type "super", dict := none, data := .fields #[.ref 34, .ref e, .ref 34], slots := #[] }) (he : h.get? e = some oe) (hec : oe.cls = .ref 34) (hne : e ≠ 34)
    (hq : Q (.ref h.objs.size, []) ⟨h.push { cls := .type "method-wrapper", data := .fields #[.builtin "Exception.__init__", .ref e] }, g, d, t + 1, os⟩) :
    wpAny (model prog w) A (getMethod (.ref so) (Str.ofString "__init__") pl) Q E ⟨h, g, d, t, os⟩ := by
  have hlk := F.ks_slot_super_ga.lookup
  have hcan := F.ks_canon_super_ga
  have hT : ∀ t', (⟨h, g, d, t', os⟩ : Shared).TypeIs (.ref so) "super" := fun _ => ⟨_, hso, rfl⟩
  unfold getMethod
  refine wpAny_bind (wpAny_specialOf (hT _) hlk ?_)
  dsimp only
  rw [if_pos hcan]
  unfold getAttr getAttrBy
  refine wpAny_bind (wpAny_bind (wpAny_mkText (wpAny_holding (wpAny_bind (wpAny_typeOf (hT _) (wpAny_bind (wpAny_of_eq hlk ?_)))))))
  show wpAny _ _ (getAttrByItsOwn (.ref so) (.str (Str.ofString "__init__") t) (.type "super") (.builtin "super.__getattribute__") true false) _ _ _
  unfold getAttrByItsOwn hookBefore callGetattribute boundAndCalled
  refine wpAny_bind (wpAny_of_eq (show (if onTheHeap (.type "super") then typeLookup (.type "super") "__getattr__" else pure none) = pure none from rfl) ?_)
  refine wpAny_bind (wpAny_attempt (wpAny_holding (wpAny_bind (wpAny_of_eq (F.ks_slot_super_ga.bind _) ?_))))
  refine wpAny_mono (Q := fun v s' => v = .ref h.objs.size ∧ s' = ⟨h.push { cls := .type "method-wrapper", data := .fields #[.builtin "Exception.__init__", .ref e] }, g, d, t + 1, os⟩) (E := fun _ _ => False)
    (wpAny_call_entry F.ks_slot_super_ga (hT _) F.ks_entry_super_ga (ga_super X hso he hec hne ⟨_, rfl, rfl, rfl⟩) (ga_args _ _)) (fun v s' hv => ?_) fun _ _ z => z.elim
  obtain ⟨rfl, rfl⟩ := hv
  exact wpAny_pure (wpAny_pure hq)
theorem init_bound {M : Model} {e : Addr} {b : Value} {dct : Option Addr} {vs : Array Value} {sl : Array (Option Value)} {Q : Unit → Shared → Prop} (hC : h.get? 34 = some basicCls) (he : h.get? e = some { cls := .ref 34, dict := dct, data := .fields vs, slots := sl }) (hq : Q () ⟨h, g, d, t, os⟩) : wpAny M A (checkBoundCall "Exception.__init__" ⟨[.ref e, b], []⟩) Q E ⟨h, g, d, t, os⟩ := by
  have F := PySem.F.excBase_Exception
  have hshort := F.noStar
  unfold checkBoundCall
  simp only [F.initKind, F.initRow]
  repeat (first | with_reducible refine wpAny_loadPart_at he ?_ | with_reducible refine wpAny_loadPart_at hC ?_ | wp_step)
  exact hq
theorem init_call {b e : Addr} {vs : Array Value} {dct : Option Addr} {sl : Array (Option Value)} {c : Value} {Q : Value → Shared → Prop} (X : (Mine.hd.heap_39 w.params).In h)
    (hb : h.get? b = some { cls := .type "method-wrapper", data := .fields #[.builtin "Exception.__init__", .ref e] }) (he : h.get? e = some { cls := .ref 34, dict := dct, data := .fields vs, slots := sl }) (hvs : 0 < vs.size)
    (hq : Q .none ⟨(h.push { cls := .type "tuple", data := .seq #[c] }).update e (Obj.mapFields (·.setIfInBounds 0 (.ref h.objs.size))), g, d, t, os⟩) :
    wpAny (model prog w) A (call (.ref b) [c]) Q E ⟨h, g, d, t, os⟩ := by
  have hC := X _ _ (basic_at w)
  refine wpAny_call (codeAny_of_tree ?_)
  show wpAny _ A.in1 (callAny (.ref b) _) _ _ _
  unfold callAny
  refine wpAny_bind (wpAny_load hb ?_)
  dsimp only
  rw [if_pos (by rfl)]
  show wpAny _ _ (if (Value.type "method-wrapper" != Value.type "method") = true then (do checkBoundCall "Exception.__init__" ⟨[.ref e, c], []⟩; again (.builtin "Exception.__init__" ⟨[.ref e, c], []⟩)) else _) _ _ _
  rw [if_pos (by rfl)]
  refine wpAny_bind (init_bound hC he ?_)
  refine wpAny_pure ⟨Code.quiet_builtin _ (by decide +kernel), ?_⟩
  refine codeAny_builtin PySem.F.excBase_Exception.initEntry ?_
  obtain ⟨a0, ha0⟩ : ∃ a0, vs[0]? = some a0 := ⟨_, Array.getElem?_eq_getElem hvs⟩
  have he1 := Heap.get?_push_of_some { cls := .type "tuple", data := .seq #[c] } he
  unfold Builtin.«BaseException.__init__»
  repeat (first | (with_reducible refine wpAny_field he1 rfl ha0 ?_) | (with_reducible refine wpAny_setField he1 rfl hvs ?_) | wp_step)
  cases a0 <;> (repeat wp_step) <;> exact hq
end
end Mine
namespace Mine
open PySem.Builtin PySem.Builtin.ObjectAttr
set_option maxRecDepth 100000
section
variable {prog : Program} {w : World} {A : Around} {E : Value → Shared → Prop} {h : Heap} {g : Array GenState} {d : Drawn} {t : Nat} {os : OsState}
variable {nm q : Str} {C N x : Addr} {bs bm : List Value} {sn : List Str} {sub : List Value} {ab : Bool} {col : Option Bool} {dd : Option Addr} {k0 k1 k2 k3 k5 : Option Value} {B newId sa owner : String}
  {mN : Str → Option Value} {name : Str} {v : Value}
theorem store_new {o : Obj} {Q : Unit → Shared → Prop} (SF : StoreFacts B bm sa owner)
    (hC : h.get? C = some (excClassObj nm q C N bs bm true sn sub ab col dd k0 k1 k2 k3 k5 newId)) (hn : h.Ns N mN) (hns : mN "__setattr__" = none) (hna : mN name = none)
    (hB : typeLookup (.type B) name = pure none)
    (hx : h.get? x = some o) (hc : o.cls = .ref C) (hnc : ∀ c, o.data ≠ .cls c) (hdn : o.dict = none)
    (hq : ∀ h' tk', h'.get? x = some { o with dict := some h.objs.size } → h'.Ns1 h.objs.size (fun y => if y = name then some v else none) →
      (∀ b ob, b ≠ x → h.get? b = some ob → h'.get? b = some ob) → Q () ⟨h', g, d, tk', os⟩) :
    wpAny (model prog w) A (setAttr (.ref x) name v) Q E ⟨h, g, d, t, os⟩ := by
  have f3 := SF.slot.bind (.ref x)
  have hpass := SF.passes (.ref x)
  have hxs : x ≠ h.objs.size := Nat.ne_of_lt (Heap.lt_size hx)
  unfold setAttr callSpecial? specialOf
  repeat (any_goals (first | assumption | (with_reducible refine wpAny_loadPart_at hx ?_; rw [hc]) | (with_reducible refine wpAny_typeLookup_exc hC hn SF.mro SF.slot.lookup ?_; rw [hns]) | wp_step))
  refine codeAny_call_builtin SF.slot.plain SF.entry (wpAny_check_sa SF hC hx hc ?_)
  unfold Builtin.«object.__setattr__»
  repeat (first | rw [refuse_eq] | (rw [refuseLoop_ref, hpass]) | (with_reducible refine wpAny_loadPart_at hx ?_; rw [hc]) | with_reducible refine wpAny_mroOf_exc hC ?_ | (with_reducible refine wpAny_typeLookup_exc hC hn SF.mro hB ?_; rw [hna]) | wp_step)
  rw [hdn]
  dsimp only
  rw [if_neg (by simp [typeHasDict])]
  split
  · rename_i c hcd
    exact absurd hcd (hnc c)
  have hx1 : (h.push { cls := .type "dict", data := .dict #[] }).get? x = some o := Heap.get?_push_of_some _ hx
  have hfr := (Heap.get?_some_iff.mp hx).2
  refine wpAny_bind (wpAny_alloc' (wpAny_bind (wpAny_update' hx1 ?_)))
  refine wpAny_pure ?_
  dsimp only
  have hx2 : ((h.push { cls := .type "dict", data := .dict #[] }).update x fun o => { cls := o.cls, dict := some h.objs.size, data := o.data, slots := o.slots }).get? x
      = some { o with dict := some h.objs.size } := by
    refine Heap.get?_update_self _ hx1 ?_
    obtain ⟨oc, od, odt, osl⟩ := o
    cases odt <;> first | rfl | exact hfr
  have hd2 : ((h.push { cls := .type "dict", data := .dict #[] }).update x fun o => { cls := o.cls, dict := some h.objs.size, data := o.data, slots := o.slots }).get? h.objs.size
      = some { cls := .type "dict", data := .dict #[] } := (Heap.get?_update_other _ _ hxs).trans (Heap.get?_push_at rfl rfl)
  have hk2 : ∀ b ob, b ≠ x → h.get? b = some ob → ((h.push { cls := .type "dict", data := .dict #[] }).update x fun o => { cls := o.cls, dict := some h.objs.size, data := o.data, slots := o.slots }).get? b = some ob :=
    fun b ob hb e => (Heap.get?_update_other _ _ (Ne.symm hb)).trans (Heap.get?_push_of_some _ e)
  generalize ((h.push { cls := .type "dict", data := .dict #[] }).update x fun o => { cls := o.cls, dict := some h.objs.size, data := o.data, slots := o.slots }) = h2 at hx2 hd2 hk2
  have hn2 : h2.Ns1 h.objs.size fun _ => none := Heap.Ns1.of_empty ⟨_, #[], _, hd2, rfl, fun e he => absurd he (by simp), fun _ => rfl⟩
  show wpAny _ _ (storeInDict h.objs.size (.str name t) name v) _ _ _
  unfold storeInDict newKeyGuard
  refine wpAny_bind (wpAny_pure (wpAny_bind (wpAny_nsSet1 hn2 fun h' hn' hs => ?_)))
  obtain ⟨oD, esD, epD, hoD, hdD, hcD⟩ := hn'.count (Within.cons name v Within.nil)
  refine wpAny_bind (wpAny_lookBehind hoD (by rw [hdD]; exact pastItsLine_dict (Nat.le_trans hcD (by rw [List.length_cons, List.length_nil, sizeLine_eq]; omega))) ?_)
  repeat wp_step
  refine hq h' _ ((hs.2 x hxs).trans hx2) hn' fun b ob hb e => (hs.2 b (Nat.ne_of_lt (Heap.lt_size e))).trans (hk2 b ob hb e)
end
end Mine
namespace Mine
set_option maxRecDepth 100000
theorem basic_init (w : World) : nsIn (Mine.hd.heap_39 w.params) 33 (Str.ofString "__init__") = some (some (.ref 31)) := by k_is
theorem basic_fn (w : World) : ∃ o, (Mine.hd.heap_39 w.params).lookup 31 = some o ∧ o.cls = .type "function" := ⟨_, by k_is, rfl⟩
theorem basic_ns (w : World) : nsOkIn (Mine.hd.heap_39 w.params) 33 = true := by kernel_rfl
theorem ns_some_of {K : Frag} {h : Heap} {N : Addr} {mg : Str → Option Value} {n : Str} {v : Value} (X : K.In h) (G : h.Ns N mg) (e : nsIn K N n = some (some v)) : mg n = some v := by
  obtain ⟨o, es, ep, ho, hd, _, hf⟩ := G
  unfold nsIn at e
  split at e
  · rename_i c d es' n' sl q
    have := X _ _ q
    rw [ho] at this
    cases this
    cases hd
    split at e
    · rename_i en he
      cases e
      rw [← hf]
      unfold nsFind findBy
      rw [← Array.find?_toList, he]
      rfl
    · split at e <;> cases e
  · cases e
noncomputable abbrev theProg : Program := PySem.Challenge.rw_pq0136_01.row.prog
section
variable {w : World} {loose : List Str} {mean : ExcName → Option Value} {mg mb : Str → Option Value} {dp un : Nat} {gd : Option (List Code)} {cn : Str} {cs : Scope} {a : Addr} {ccd : Value} {cl : List (Str × Addr)} {outer : List Env} {A₀ : Around} {base h₀ : Heap} {L : Addr} {m : Str → Option Value} {news : List (Addr × Obj)} {s : Shared} {Q E : Value → Shared → Prop}
theorem news_made {h' : Heap} {e : Addr} {C : Value} {args : List Value} (F : Fr h₀ L s.heap m) (N : News h₀ L s.heap news) (hm : Heap.MadeExcOf s.heap h' e C args) :
    Fr h₀ L h' m ∧ ∃ t, News h₀ L h' ((e, { cls := C, data := .fields #[.ref t, .none, .none, .none, .bool false, .none] }) :: (t, { cls := .type "tuple", data := .seq args.toArray }) :: news) := by
  obtain ⟨t, h1, h2, h3⟩ := hm.there
  have F' := F.keeps hm.keeps
  have L1 : ∀ {x : Addr}, s.heap.get? x = none → x ≠ L := fun hx q => by
    obtain ⟨oL, _, _, hL, _⟩ := F.ns
    rw [q, hL] at hx; cases hx
  have L2 : ∀ {x : Addr}, s.heap.get? x = none → h₀.get? x = none := fun {x} hx => by
    cases q : h₀.get? x with
    | none => rfl
    | some o => have := F.keep _ _ q; rw [hx] at this; cases this
  refine ⟨F', t, fun p hp => ?_⟩
  rcases List.mem_cons.mp hp with rfl | hp
  · exact ⟨h1, L1 hm.new, L2 hm.new⟩
  rcases List.mem_cons.mp hp with rfl | hp
  · exact ⟨h3, L1 h2, L2 h2⟩
  · exact ⟨hm.keeps _ _ (N p hp).1, (N p hp).2⟩
theorem news_upd {h h' : Heap} {x : Addr} {o o' : Obj} (F : Fr h₀ L h m) (N : News h₀ L h ((x, o) :: news)) (hne : ∀ p ∈ news, p.1 ≠ x) (hk : ∀ b ob, b ≠ x → h.get? b = some ob → h'.get? b = some ob) (ho : h'.get? x = some o') :
    Fr h₀ L h' m ∧ News h₀ L h' ((x, o') :: news) := by
  have hx := N _ (.head _)
  obtain ⟨oL, es, ep, hL, r⟩ := F.ns
  refine ⟨⟨⟨oL, es, ep, hk _ _ (Ne.symm hx.2.1) hL, r⟩, fun b ob e => hk _ _ (fun q => by rw [q, hx.2.2] at e; cases e) (F.keep b ob e), F.above⟩, fun p hp => ?_⟩
  rcases List.mem_cons.mp hp with rfl | hp
  · exact ⟨ho, hx.2⟩
  · have := N p (.tail _ hp)
    exact ⟨hk _ _ (hne p hp) this.1, this.2⟩
theorem news_upd2 {h h' : Heap} {x d : Addr} {o o' : Obj} (F : Fr h₀ L h m) (N : News h₀ L h ((x, o) :: news)) (hne : ∀ p ∈ news, p.1 ≠ x) (hk : ∀ b ob, b ≠ x → b ≠ d → h.get? b = some ob → h'.get? b = some ob) (ho : h'.get? x = some o')
    (hdL : d ≠ L) (hdg : h₀.get? d = none) (hdn : ∀ p ∈ news, p.1 ≠ d) : Fr h₀ L h' m ∧ News h₀ L h' ((x, o') :: news) := by
  have hx := N _ (.head _)
  obtain ⟨oL, es, ep, hL, r⟩ := F.ns
  refine ⟨⟨⟨oL, es, ep, hk _ _ (Ne.symm hx.2.1) (Ne.symm hdL) hL, r⟩, fun b ob e => hk _ _ (fun q => by rw [q, hx.2.2] at e; cases e) (fun q => by rw [q, hdg] at e; cases e) (F.keep b ob e), F.above⟩, fun p hp => ?_⟩
  rcases List.mem_cons.mp hp with rfl | hp
  · exact ⟨ho, hx.2⟩
  · have := N p (.tail _ hp)
    exact ⟨hk _ _ (hne p hp) (hdn p hp) this.1, this.2⟩
noncomputable def codeIs (c : Value) (h : Heap) (e : Addr) : Prop := ∃ o d mA, h.get? e = some o ∧ o.dict = some d ∧ h.Ns d mA ∧ mA (Str.ofString "code") = some c
theorem callWith_mw {M : Model} {A : Around} {P : Heap → Prop} {f : Value} {first : List Value} {pos : Pos} {env : Env} {e : PySem.Expr} {rest : List PySem.Expr}
    (hk : ∀ h, P h → ∃ k, (k = Keeper.frame ∨ k = Keeper.machine ∨ k = Keeper.boundFrame) ∧ Looks M h (keeperOf f) k)
    (h : wpAny M A (spliced (backTo pos (starEach (e :: rest) env))) (fun vs s₁ => P s₁.heap ∧ wpAny M A (call f (first ++ vs)) Q E s₁) E s)
    (he : starEach (e :: rest) env = (false, eval e env) :: starEach rest env) (hplain : (backTo pos (starEach rest env)).any (·.1) = false) :
    wpAny M A (callWith pos f first (backTo pos (starEach (e :: rest) env)) []) Q E s := by
  rw [he] at h ⊢
  exact callWith_of (by show ((false || (backTo pos (starEach rest env)).any (·.1)) || false) = false; rw [hplain]; rfl) hk (evalArgs_plain h)
theorem code_free : typeLookup (.type "Exception") (Str.ofString "code") = pure none := by rw [typeLookup_type, builtinLookup_eq_fast]; kernel_rfl
theorem told_free : typeLookup (.type "Exception") (Str.ofString "told") = pure none := by rw [typeLookup_type, builtinLookup_eq_fast]; kernel_rfl
set_option maxHeartbeats 4000000 in
theorem new_basic {c : Str} {tc : Tok} (B : Below A₀ base outer h₀) (F : Fr h₀ L s.heap m) (X : (Mine.hd.heap_39 w.params).In h₀) (N : News h₀ L s.heap news) (T : Top Mine.hd.view_39 loose mean mg mb h₀) (hk : cs.kind = .function)
    (hd : dp + 1 < recursionLimit) (hu : un + 24 < cLine)
    (ret : ∀ e h' tk' vs sl dct, Fr h₀ L h' m → News h₀ L h' ((e, { cls := .ref 34, dict := dct, data := .fields vs, slots := sl }) :: news) → (∀ p ∈ news, p.1 ≠ e) → vs[1]? = some .none → (∃ a0, vs[0]? = some a0) → codeIs (.str c tc) h' e → Q (.ref e) { s with heap := h', toks := tk' }) :
    wpAny (model theProg w) (ktrTop dp un gd cn cs L a ccd cl outer) (call (.ref 34) [.str c tc]) Q E s := by
  have X1 := X.keeps F.keep
  obtain ⟨oI, hI, hIc⟩ := basic_fn w
  obtain ⟨h, g, d, t, os⟩ := s
  have hN : h.Ns 33 (h.nsMap 33) := .of_isNs (isNs_of_in X1 (basic_ns w))
  refine wpAny_call_exc_init (hrest := by size_fits) PySem.F.excBase_Exception (X1 _ _ (basic_at w)) hN (ns_some_of X1 hN (basic_init w)) (X1 _ _ hI) hIc (fun h' e hm => ?_)
  obtain ⟨F1, t1, N1⟩ := news_made F N hm
  have hne : ∀ p ∈ news, p.1 ≠ e := fun p hp q => by
    have := (N p hp).1
    rw [q, hm.new] at this; cases this
  have X2 : (Mine.hd.heap_39 w.params).In h' := X.keeps F1.keep
  refine wpAny_call ?_
  refine' ks_code_super ?k1 ?k2 ?k3 ?k4 ?k5 ?kA ?kF ?kK ?k6 ?k7 ?k8 ?k9 ?kB ?_ ?c1 ?c2 ?c3 ?c4
  case kA => exact rfl
  case kF => exact rfl
  case kK => exact hk
  case k1 => k_asm
  case k2 => k_asm
  case k3 => k_asm
  case k4 => k_asm
  case k5 => k_asm
  case k6 => k_is
  case k7 => k_is
  case k8 => ktr_room
  case k9 => first | exact BindsTo.of_eq rfl | exact binds_K (by k_in) rfl (by k_is) rfl rfl rfl
  case kB => exact locs rfl
  case c1 => decide
  case c2 => exact rfl
  case c3 => exact rfl
  case c4 => exact rfl
  intro g' L' h'' FG' F' N' B' X' T' l1
  (try dsimp only)
  walk1
  walk1
  walk1
  have I0 : InstAt h'' e { cls := .ref 34, data := .fields #[.ref t1, .none, .none, .none, .bool false, .none] } 34 none := ⟨(N' _ (.head _)).1, rfl, rfl, trivial⟩
  refine ks_node (K := Mine.hd.heap_39 w.params) (by k_asm) (by k_asm) (by k_asm) (by k_asm) (by k_is) (by rfl) (by rfl) I0 (by k_is) (by rfl) (by first | rfl | decide +kernel) (by k_is) (by k_is) (by k_is) (by k_is) (by decide) (by rfl) (by rfl) (by rfl) (by rfl) (by decide +kernel) (by first | boot_by_name | rfl | kernel_rfl) ?_
  intro so' h3 F3 N3 l3
  have X3 := X'.keeps F3.keep
  have hC3 := X3 _ _ (basic_at w)
  have he3 := (N3 _ (.tail _ (.head _))).1
  have hne34 : e ≠ 34 := fun q => by
    rw [q, hC3] at he3
    cases he3
  refine method_super X3 (N3 _ (.head _)).1 he3 rfl hne34 ?_
  have F4 := F3.push { cls := .type "method-wrapper", data := .fields #[.builtin "Exception.__init__", .ref e] }
  have N4 := News.push F3 N3 { cls := .type "method-wrapper", data := .fields #[.builtin "Exception.__init__", .ref e] }
  dsimp only
  generalize h3.push _ = h4 at F4 N4 ⊢
  generalize h3.objs.size = mw at N4 ⊢
  have hmw := (N4 _ (.head _)).1
  refine callWith_mw (P := fun hh => hh.get? mw = some { cls := .type "method-wrapper", data := .fields #[.builtin "Exception.__init__", .ref e] }) (fun hh hp => ⟨.machine, .inr (.inl rfl), (Looks.ld (part := none) hp).andThen .now⟩) ?_ rfl rfl
  walk1
  walk1
  walk1
  have X4 : (Mine.hd.heap_39 w.params).In h4 := X'.keeps F4.keep
  have he4 := (N4 _ (.tail _ (.tail _ (.head _)))).1
  refine ⟨hmw, init_call X4 hmw he4 (by show 0 < 6; omega) ?_⟩
  have N5 : News g' L' (h4.push { cls := .type "tuple", data := .seq #[.str c tc] }) ((e, { cls := .ref 34, data := .fields #[.ref t1, .none, .none, .none, .bool false, .none] }) :: news) :=
    fun p hp => (News.push F4 N4 { cls := .type "tuple", data := .seq #[.str c tc] }) p (by
      rcases List.mem_cons.mp hp with rfl | hp
      · exact .tail _ (.tail _ (.tail _ (.head _)))
      · exact .tail _ (.tail _ (.tail _ (.tail _ (.tail _ hp)))))
  obtain ⟨F6, N6⟩ := news_upd (F4.push { cls := .type "tuple", data := .seq #[.str c tc] }) N5 hne (fun b ob hb q => (Heap.get?_update_other _ _ (Ne.symm hb)).trans q)
    (Heap.get?_update_self (Obj.mapFields (·.setIfInBounds 0 (.ref h4.objs.size))) (N5 _ (.head _)).1 rfl)
  generalize ((h4.push { cls := .type "tuple", data := .seq #[.str c tc] }).update e (Obj.mapFields (·.setIfInBounds 0 (.ref h4.objs.size)))) = h6 at F6 N6 ⊢
  generalize h4.objs.size = t6 at N6
  clear F4 N4 N5 he4 hmw X4 F3 N3 X3 hC3 he3 I0 F' N'
  have N7 : News g' L' h6 ((e, { cls := .ref 34, data := .fields #[.ref t6, .none, .none, .none, .bool false, .none] }) :: news) := N6
  clear N6
  iterate 5 walk1
  have X6 : (Mine.hd.heap_39 w.params).In h6 := X'.keeps F6.keep
  refine store_new PySem.F.store_Exception (X6 _ _ (basic_at w)) (.of_isNs (isNs_of_in X6 (basic_ns w))) (nsMap_none_of_in X6 (basic_ns w) (by k_is)) (nsMap_none_of_in X6 (basic_ns w) (by k_is)) code_free (N7 _ (.head _)).1 rfl (fun c q => by cases q) rfl ?_
  intro h7 tk7 hx7 hn7 hk7
  obtain ⟨F7, N8⟩ := news_upd F6 N7 hne (fun b ob hb q => hk7 b ob hb q) hx7
  have hdn : h6.get? h6.objs.size = none := Heap.get?_none_of_le (Nat.le_refl _)
  have hde : h6.objs.size ≠ e := fun q => by rw [q, (N7 _ (.head _)).1] at hdn; cases hdn
  have hdL : h6.objs.size ≠ L' := fun q => by
    obtain ⟨oL, _, _, hL, _⟩ := F6.ns
    rw [q, hL] at hdn; cases hdn
  have hdg : g'.get? h6.objs.size = none := by
    cases q : g'.get? h6.objs.size with
    | none => rfl
    | some o => have := F6.keep _ _ q; rw [hdn] at this; cases this
  have hdnews : ∀ p ∈ news, p.1 ≠ h6.objs.size := fun p hp q => by
    have := (N7 p (.tail _ hp)).1
    rw [q, hdn] at this; cases this
  generalize h6.objs.size = dd at hx7 hn7 N8 hde hdL hdg hdnews
  clear hdn hk7 F6 N7 X6
  try dsimp only
  iterate 5 walk1
  have X7 : (Mine.hd.heap_39 w.params).In h7 := X'.keeps F7.keep
  refine store_attr PySem.F.store_Exception (X7 _ _ (basic_at w)) (.of_isNs (isNs_of_in X7 (basic_ns w))) (nsMap_none_of_in X7 (basic_ns w) (by k_is)) (nsMap_none_of_in X7 (basic_ns w) (by k_is)) told_free hne34
    (mA := fun y => if y = Str.ofString "code" then some (.str c tc) else none) ⟨_, hx7, rfl, (fun c q => by cases q), .inr ⟨dd, rfl, hde, hn7⟩⟩ ?_ (Within.cons _ _ Within.nil) (by rw [List.length_cons, List.length_nil, sizeLine_eq]; omega)
  intro h8 tk8 I8 hk8 ho8
  obtain ⟨o1, ho1, hoc, hod, hos, _⟩ := ho8 _ hx7
  have hk9 : ∀ b ob, b ≠ e → b ≠ dd → h7.get? b = some ob → h8.get? b = some ob := fun b ob h1 h2 q => hk8 b ob h1 (fun o0 dx e1 e2 => by
    rw [hx7] at e1; cases e1; cases e2; exact h2) q
  obtain ⟨F8, N9⟩ := news_upd2 F7 N8 hne hk9 ho1 hdL hdg hdnews
  obtain ⟨oc, od, odt, osl⟩ := o1
  dsimp only at hoc hod hos
  subst hoc hod hos
  have hcode : codeIs (.str c tc) h8 e := by
    obtain ⟨o2, g1, g2, g3, g4⟩ := I8
    rcases g4 with ⟨_, g5⟩ | ⟨d2, g5, g6, g7⟩
    · have := g5 (Str.ofString "told")
      simp at this
    · exact ⟨o2, d2, _, g1, g5, g7.ns, by rw [if_neg (by decide +kernel), if_pos rfl]⟩
  clear I8 hk8 ho8 hk9 hn7 hx7 F7 N8 X7
  try dsimp only
  iterate 3 walk1
  exact ret e h8 tk8 _ _ _ (by assumption) (by assumption) hne rfl ⟨_, rfl⟩ hcode
end
end Mine
namespace Mine
set_option maxRecDepth 100000
section
variable {M : Model} {A : Around} {E : Value → Shared → Prop} {env : Env}
variable {nm q : Str} {C N : Addr} {bs bm : List Value} {hdct : Bool} {sn : List Str} {sub : List Value} {ab : Bool} {col : Option Bool} {dd : Option Addr} {k0 k1 k2 k3 k5 : Option Value} {newId : String}
theorem raise_made {s : Shared} {x : Sem Value} {Q : Flow → Shared → Prop} (hbase : bm.contains (.type "BaseException") = true) (hh : A.handled = none)
    (h : wpAny M A x (fun v s₁ => ∃ e vs sl dct, v = .ref e ∧ s₁.heap.get? C = some (excClassObj nm q C N bs bm hdct sn sub ab col dd k0 k1 k2 k3 k5 newId) ∧
      s₁.heap.get? e = some { cls := .ref C, dict := dct, data := .fields vs, slots := sl } ∧ vs[1]? = some .none ∧ E (.ref e) s₁) E s) :
    wpAny M A (raiseStmt env (some x) none) Q E s := by
  have hcB : (Value.ref C :: bm).contains (.type "BaseException") = true := by rw [List.contains_cons, hbase, Bool.or_true]
  unfold raiseStmt
  refine wpAny_bind (wpAny_mono h (fun v s₁ h₁ => ?_) fun _ _ x => x)
  obtain ⟨e, vs, sl, dct, rfl, hC, he, h1, hE⟩ := h₁
  obtain ⟨hp, g, d, tk, os⟩ := s₁
  repeat (first | with_reducible refine wpAny_loadPart_at he ?_ | with_reducible refine wpAny_loadPart_at hC ?_ | (with_reducible refine wpAny_isSubtype_exc hC ?_; rw [hcB]) | wp_step)
  rw [h1]
  repeat wp_step
  exact wpAny_raiseNew_none hh hE
end
theorem raise_basic {M : Model} {A : Around} {E : Value → Shared → Prop} {env : Env} {s : Shared} {x : Sem Value} {Q : Flow → Shared → Prop} (hh : A.handled = none)
    (h : wpAny M A x (fun v s₁ => ∃ e vs sl dct, v = .ref e ∧ s₁.heap.get? 34 = some basicCls ∧
      s₁.heap.get? e = some { cls := .ref 34, dict := dct, data := .fields vs, slots := sl } ∧ vs[1]? = some .none ∧ E (.ref e) s₁) E s) :
    wpAny M A (raiseStmt env (some x) none) Q E s := raise_made (by decide +kernel) hh h
section
variable {w : World} {loose : List Str} {mean : ExcName → Option Value} {mg mb : Str → Option Value} {dp un : Nat} {gd : Option (List Code)} {cn : Str} {cs : Scope} {a : Addr} {ccd : Value} {cl : List (Str × Addr)} {outer : List Env} {A₀ : Around} {base h₀ : Heap} {L : Addr} {m : Str → Option Value} {news : List (Addr × Obj)} {s : Shared} {Q : Flow → Shared → Prop} {E : Value → Shared → Prop}
set_option maxHeartbeats 4000000 in
theorem raise_OV {np cp cpos pos : Pos} {kk : Nat} (B : Below A₀ base outer h₀) (F : Fr h₀ L s.heap m) (X : (Mine.hd.heap_39 w.params).In h₀) (N : News h₀ L s.heap news) (T : Top Mine.hd.view_39 loose mean mg mb h₀) (hk : cs.kind = .function)
    (hx : cs.names.lookup (Str.ofString "BasicError") = some .globalImplicit)
    (hd : dp + 1 < recursionLimit) (hu : un + 24 < cLine)
    (ret : ∀ e h' tk' vs sl dct tc, Fr h₀ L h' m → News h₀ L h' ((e, { cls := .ref 34, dict := dct, data := .fields vs, slots := sl }) :: news) → (∀ p ∈ news, p.1 ≠ e) → vs[1]? = some .none → (∃ a0, vs[0]? = some a0) → codeIs (.str (Str.ofString "OV") tc) h' e → E (.ref e) { s with heap := h', toks := tk' }) :
    wpAny (model theProg w) (ktrTop dp un gd cn cs L a ccd cl outer) (exec (.Raise (some (.Call (.Name (Str.ofString "BasicError") np) [.Constant (.str (Str.ofString "OV")) kk cp] [] cpos)) none pos) (envX cn cs L a ccd cl)) Q E s := by
  have T' := topRead_of T
  rw [arm_exec_Raise]
  refine wpAny_bind (wpAny_standAt (raise_basic rfl (wpAny_bind (wpAny_Call_ofName (nameX_K F X T' (by k_is) ?_ hk hx (by decide))))))
  refine callWith_K X (by k_is) ?_
  walk1
  walk1
  walk1
  refine ⟨X.keeps F.keep, ?_⟩
  refine new_basic (s := { s with toks := s.toks + 1 }) B F X N T hk hd hu (fun e h' tk' vs sl dct F' N' hne h1 h0 hc => ?_)
  refine wpAny_bind (wpAny_standAt (wpAny_pure ⟨e, vs, sl, dct, rfl, X.keeps F'.keep _ _ (basic_at w), (N' _ (.head _)).1, h1, ?_⟩))
  exact ret e h' tk' vs sl dct _ F' N' hne h1 h0 hc
end

/-- the exception flies: its class, its code, the ledger behind it; G is the heap that the frame it leaves began with -/
noncomputable def RaisedC (base G : Heap) (l : List Env) (e : Addr) (news : List (Addr × Obj)) (c : Value) (h : Heap) : Prop :=
  ∃ B a0, base.StaysIn B ∧ (∀ b o, G.get? b = some o → b ∉ l.filterMap (·.frame) → B.get? b = some o) ∧ (∀ q ∈ news, B.get? q.1 = some q.2 ∧ G.get? q.1 = none ∧ base.get? q.1 = none) ∧ Heap.FlyingW B l e (.ref 34) a0 h ∧ codeIs c h e
theorem codeIs_kept {h h' : Heap} {e : Addr} {c : Value} (x : codeIs c h e) (k : DictKept h h') (u : h.UpToSlots h') : codeIs c h' e := by
  obtain ⟨o, d, mA, h1, h2, h3, h4⟩ := x
  obtain ⟨o', g1, g2⟩ := k _ _ h1
  exact ⟨o', d, mA, g1, g2.trans h2, u.ns h3, h4⟩
theorem mem_frames {env : Env} {L b : Addr} {outer : List Env} (hf : env.frame = some L) (hm : b ∈ (env :: outer).filterMap (·.frame)) : b = L ∨ b ∈ outer.filterMap (·.frame) := by
  obtain ⟨env', he, hf'⟩ := List.mem_filterMap.mp hm
  rcases List.mem_cons.mp he with rfl | he
  · rw [hf] at hf'; exact .inl (Option.some.inj hf').symm
  · exact .inr (List.mem_filterMap.mpr ⟨env', he, hf'⟩)
section
variable {M : Model} {A : Around} {E : Value → Shared → Prop} {s' : Shared} {base g g₂ h : Heap} {outer : List Env} {L e : Addr} {m : Str → Option Value} {env : Env} {Q : Unit → Shared → Prop} {news : List (Addr × Obj)} {c : Value}
theorem leave_firstC {vs : Array Value} {sl : Array (Option Value)} {dct : Option Addr} (K : Below A base outer g) (F : Fr g L s'.heap m) (N : News g L s'.heap ((e, { cls := .ref 34, dict := dct, data := .fields vs, slots := sl }) :: news))
    (hne : ∀ p ∈ news, p.1 ≠ e) (h1 : vs[1]? = some .none) (h0 : ∃ a0, vs[0]? = some a0) (hc : codeIs c s'.heap e) (hf : env.frame = some L) (hk : env.scope.kind = .function)
    (hQ : ∀ h', RaisedC base g outer e news c h' → g.UpToSlots h' → Q () { s' with heap := h' }) :
    wpAny M (A.deeper env) (leaving env (.ref e)) Q E s' := by
  have K' := pushX K F hf hk
  obtain ⟨a0, h0⟩ := h0
  have he := (N _ (.head _)).1
  have hin : ∀ env' ∈ (env :: outer), ∀ b, env'.frame = some b → b ∈ e :: (env :: outer).filterMap (·.frame) := fun env' he b hb => .tail _ (List.mem_filterMap.mpr ⟨env', he, hb⟩)
  have frm : ∀ b, b ∈ (env :: outer).filterMap (·.frame) → base.get? b = none := fun b hm => (K'.frames.mem hm).1
  have hge : base.get? e = none := fresh_of_stays K.stays (N _ (.head _)).2.2
  have st : base.StaysIn (hideAll s'.heap (e :: (env :: outer).filterMap (·.frame))) := fun b o q => hideAll_get _ (K'.stays b o q) fun hm => by
    rcases List.mem_cons.mp hm with rfl | hm
    · rw [hge] at q; cases q
    · rw [frm b hm] at q; cases q
  have sg : ∀ b o, g.get? b = some o → b ∉ outer.filterMap (·.frame) → (hideAll s'.heap (e :: (env :: outer).filterMap (·.frame))).get? b = some o := fun b o q nm => hideAll_get _ (F.keep b o q) fun hm => by
    rcases List.mem_cons.mp hm with rfl | hm
    · rw [(N _ (.head _)).2.2] at q; cases q
    · rcases mem_frames hf hm with z | z
      · rw [z, kts_self F] at q; cases q
      · exact nm z
  have hl : ∀ q ∈ news, (hideAll s'.heap (e :: (env :: outer).filterMap (·.frame))).get? q.1 = some q.2 ∧ g.get? q.1 = none ∧ base.get? q.1 = none := fun q hq => by
    have Nq := N q (.tail _ hq)
    refine ⟨hideAll_get _ Nq.1 fun hm => ?_, Nq.2.2, fresh_of_stays K.stays Nq.2.2⟩
    rcases List.mem_cons.mp hm with hm | hm
    · exact hne q hq hm
    obtain ⟨env', he', hf'⟩ := List.mem_filterMap.mp hm
    rcases List.mem_cons.mp he' with rfl | he'
    · rw [hf] at hf'; exact Nq.2.1 (Option.some.inj hf').symm
    · obtain ⟨o, ho, _⟩ := (K.frames.mem (List.mem_filterMap.mpr ⟨env', he', hf'⟩)).2
      rw [Nq.2.2] at ho; cases ho
  have hen : (hideAll s'.heap (e :: (env :: outer).filterMap (·.frame))).get? e = none := hideAll_none _ (.head _)
  refine wpAny_mono (quiet_any (quiet_leaving env (.ref e)) (wpAny_leaving_firstW (Q := fun _ s'' => ∃ h', s'' = { s' with heap := h' } ∧ Heap.LeftW (hideAll s'.heap (e :: (env :: outer).filterMap (·.frame))) (env :: outer) e (.ref 34) a0 s'.heap h') K'.stack (funFrames_hide K'.frames hin) hf he (fun b o hb => of_hideAll _ hb) hen rfl h1 h0 fun h' hL => ⟨h', rfl, hL⟩)) (fun _ s'' q => ?_) fun _ _ q => q.1
  obtain ⟨⟨h', rfl, k1, ⟨_, _, k2⟩, k3, k4⟩, kd⟩ := q
  exact hQ h' ⟨_, a0, st, sg, hl, ⟨k1, hen, k2, k3⟩, codeIs_kept hc kd k4⟩ ((Heap.UpToSlots.of_keeps F.keep).trans k4)
theorem leave_nextC (F : Fr g L g₂ m) (R : RaisedC base g₂ (env :: outer) e news c s'.heap) (hsm : g₂.UpToSlots s'.heap) (hfr : A.frames = some outer) (hf : env.frame = some L)
    (hQ : ∀ h', RaisedC base g outer e news c h' → g.UpToSlots h' → Q () { s' with heap := h' }) :
    wpAny M (A.deeper env) (leaving env (.ref e)) Q E s' := by
  obtain ⟨B, a0, hB, hBG, hl, hfl, hc⟩ := R
  refine wpAny_mono (quiet_any (quiet_leaving env (.ref e)) (wpAny_leaves_onW (Q := fun _ s'' => ∃ h', s'' = { s' with heap := h' } ∧ Heap.FlyingW B outer e (.ref 34) a0 h' ∧ s'.heap.UpToSlots h') (Around.frames_deeper hfr) hf hfl fun h' x1 x2 => ⟨h', rfl, x1, x2⟩)) (fun _ s'' q => ?_) fun _ _ q => q.1
  obtain ⟨⟨h', rfl, x1, x2⟩, kd⟩ := q
  refine hQ h' ⟨B, a0, hB, fun b o q nm => hBG b o (F.keep b o q) fun hm => ?_, fun q hq => ⟨(hl q hq).1, kts_none F.keep (hl q hq).2.1, (hl q hq).2.2⟩, x1, codeIs_kept hc kd x2⟩ ((Heap.UpToSlots.of_keeps F.keep).trans (hsm.trans x2))
  rcases mem_frames hf hm with z | z
  · rw [z, kts_self F] at q; cases q
  · exact nm z
end
end Mine
namespace Mine
/-- a plain number without its noughts at the end, and how many they were -/
noncomputable def strip (n : Nat) : Nat × Nat := if h : n ≠ 0 ∧ n % 10 = 0 then ((strip (n / 10)).1, (strip (n / 10)).2 + 1) else (n, 0)
termination_by n
decreasing_by all_goals omega
theorem strip_of : ∀ (z c n : Nat), n = c * 10 ^ z → c % 10 ≠ 0 → strip n = (c, z)
  | 0, c, n, h, hc => by
    rw [Nat.pow_zero, Nat.mul_one] at h
    subst h
    unfold strip
    rw [dif_neg (by omega)]
  | z + 1, c, n, h, hc => by
    have h1 : n = 10 * (c * 10 ^ z) := by rw [h, Nat.pow_succ]; rw [Nat.mul_comm 10, Nat.mul_assoc]
    have hpos : 0 < c * 10 ^ z := Nat.mul_pos (by omega) (Nat.pow_pos (by decide))
    unfold strip
    rw [dif_pos (by omega)]
    have h2 : n / 10 = c * 10 ^ z := by omega
    rw [h2, strip_of z c _ rfl hc]
/-- the rounded number, its noughts struck, its place looked at -/
noncomputable def decOf (size : Nat) (neg : Bool) (e : Int) : Option (Int × Int) :=
  if size = 0 then some (0, 0)
  else if e + (strip size).2 + figs (strip size).1 - 1 > 99 then none
  else if e + (strip size).2 + figs (strip size).1 - 1 < -99 then some (0, 0)
  else some (if neg then -((strip size).1 : Int) else ((strip size).1 : Int), e + (strip size).2)
noncomputable def more (c : Int) (d : Nat) : Nat := figs c.natAbs - d
noncomputable def dec (c e : Int) (d : Nat) : Option (Int × Int) := decOf (rnd c.natAbs (more c d)).toNat (decide (c < 0)) (e + more c d)
theorem rnd_zero (n : Int) : rnd n 0 = n := by
  unfold rnd
  simp [Int.fmod_one, Int.fdiv_one]
theorem rnd_nonneg {n : Int} (h : 0 ≤ n) (p : Nat) : 0 ≤ rnd n p := by
  have hp : (0 : Int) < 10 ^ p := Int.pow_pos (by decide)
  have : 0 ≤ n.fdiv (10 ^ p) := Int.fdiv_nonneg h (by omega)
  unfold rnd
  split <;> omega
theorem figs_mono {m n : Nat} (h : m ≤ n) : figs m ≤ figs n := by
  have a1 := figs_lt n
  have a2 := figs_le m
  have hp := figs_pos n
  rcases a2 with a2 | a2
  · omega
  · by_cases c : figs m ≤ figs n
    · exact c
    · have := Nat.pow_le_pow_right (show 0 < 10 by decide) (show figs n ≤ figs m - 1 by omega)
      omega
theorem figs_bound {n k : Nat} (hk : 1 ≤ k) (h : n < 10 ^ k) : figs n ≤ k := by
  rcases figs_le n with a | a
  · omega
  · by_cases c : figs n ≤ k
    · exact c
    · have := Nat.pow_le_pow_right (show 0 < 10 by decide) (show k ≤ figs n - 1 by omega)
      omega
noncomputable def DropInv (n : Nat) (e size ex : Int) : Prop := ∃ z : Nat, (n : Int) = size * ((10 ^ z : Nat) : Int) ∧ ex = e + z ∧ 0 < size
theorem drop_start {n : Nat} {e s : Int} (hs : (n : Int) = s) (h : s ≠ 0) : DropInv n e s e := ⟨0, by simp [hs], by simp, by omega⟩
theorem drop_turn {n : Nat} {e size ex : Int} (inv : DropInv n e size ex) (h : size.fmod 10 = 0) : DropInv n e (size.fdiv 10) (ex + 1) := by
  obtain ⟨z, h1, h2, h3⟩ := inv
  have h4 : size = 10 * size.fdiv 10 := by
    rw [Int.fmod_eq_emod_of_nonneg _ (by decide)] at h
    rw [Int.fdiv_eq_ediv_of_nonneg _ (by decide)]
    omega
  refine ⟨z + 1, ?_, by omega, by omega⟩
  rw [h1, Nat.pow_succ]
  generalize size.fdiv 10 = q at h4
  subst h4
  rw [Int.natCast_mul, Int.mul_comm 10 q, Int.mul_assoc, Int.mul_comm ((10 ^ z : Nat) : Int)]
  rfl
theorem drop_measure {size : Int} (h : 0 < size) : (size.fdiv 10).toNat < size.toNat := by
  rw [Int.fdiv_eq_ediv_of_nonneg _ (by decide)]
  exact toNat_lt (by omega) h
theorem drop_exit {n : Nat} {e size ex : Int} (inv : DropInv n e size ex) (h : size.fmod 10 ≠ 0) : size = (strip n).1 ∧ ex = e + (strip n).2 := by
  obtain ⟨z, h1, h2, h3⟩ := inv
  obtain ⟨c, rfl⟩ := Int.eq_ofNat_of_zero_le (Int.le_of_lt h3)
  have h5 : c % 10 ≠ 0 := fun q => h (by rw [Int.fmod_eq_emod_of_nonneg _ (by decide)]; omega)
  have h6 : n = c * 10 ^ z := by exact_mod_cast h1
  rw [strip_of z c n h6 h5]
  exact ⟨rfl, h2⟩
noncomputable abbrev sizeOf' (c : Int) (d : Nat) : Nat := (rnd c.natAbs (more c d)).toNat
theorem more_is {c d a1 : Int} (h1 : 1 ≤ d) (e1 : a1 = (figs c.natAbs : Nat)) : (a1 - d).toNat = more c d.toNat := by
  obtain ⟨k, rfl⟩ := Int.eq_ofNat_of_zero_le (Int.le_trans (by decide) h1)
  subst e1
  unfold more
  rw [Int.toNat_natCast]
  exact Int.toNat_sub _ _
theorem made_startA {c e d a1 a2 : Int} (h1 : 1 ≤ d) (e1 : a1 = (figs c.natAbs : Nat)) (h : 0 < a1 - d) (e2 : a2 = rnd c.natAbs (a1 - d).toNat) (hne : a2 ≠ 0) :
    0 < a2 ∧ DropInv (sizeOf' c d.toNat) (e + more c d.toNat) a2 (e + (a1 - d)) := by
  have hm : (a1 - d).toNat = more c d.toNat := more_is h1 e1
  have hm' : a1 - d = (more c d.toNat : Nat) := by rw [← hm]; exact (Int.toNat_of_nonneg (Int.le_of_lt h)).symm
  rw [hm] at e2
  have h0 := rnd_nonneg (n := c.natAbs) (by omega) (more c d.toNat)
  refine ⟨by omega, ?_⟩
  rw [hm']
  exact drop_start (by unfold sizeOf'; omega) hne
theorem made_startB {c e d a1 : Int} (h1 : 1 ≤ d) (e1 : a1 = (figs c.natAbs : Nat)) (h : ¬ 0 < a1 - d) (hne : (c.natAbs : Int) ≠ 0) :
    0 < (c.natAbs : Int) ∧ DropInv (sizeOf' c d.toNat) (e + more c d.toNat) c.natAbs e := by
  have hm : more c d.toNat = 0 := by rw [← more_is h1 e1]; exact Int.toNat_of_nonpos (Int.not_lt.mp h)
  refine ⟨by omega, ?_⟩
  unfold sizeOf'
  rw [hm, rnd_zero]
  have := drop_start (n := c.natAbs) (e := e) rfl hne
  simpa using this
theorem made_zeroA {c e d a1 a2 : Int} (h1 : 1 ≤ d) (e1 : a1 = (figs c.natAbs : Nat)) (h : 0 < a1 - d) (e2 : a2 = rnd c.natAbs (a1 - d).toNat) (hz : a2 = 0) : dec c e d.toNat = some (0, 0) := by
  have hm : (a1 - d).toNat = more c d.toNat := more_is h1 e1
  rw [hm] at e2
  unfold dec decOf
  rw [if_pos (by omega)]
theorem made_zeroB {c e d a1 : Int} (h1 : 1 ≤ d) (e1 : a1 = (figs c.natAbs : Nat)) (h : ¬ 0 < a1 - d) (hz : (c.natAbs : Int) = 0) : dec c e d.toNat = some (0, 0) := by
  have hm : more c d.toNat = 0 := by rw [← more_is h1 e1]; exact Int.toNat_of_nonpos (Int.not_lt.mp h)
  unfold dec decOf
  rw [if_pos (by rw [hm, rnd_zero]; omega)]
theorem drop_nz {n : Nat} {e size ex : Int} (inv : DropInv n e size ex) : n ≠ 0 := by
  obtain ⟨z, h1, h2, h3⟩ := inv
  rintro rfl
  have : 0 < size * ((10 ^ z : Nat) : Int) := Int.mul_pos h3 (by have := Nat.pow_pos (n := z) (show 0 < 10 by decide); omega)
  omega
theorem made_ov {c e d size ex a : Int} (inv : DropInv (sizeOf' c d.toNat) (e + more c d.toNat) size ex) (hx : size.fmod 10 ≠ 0) (ha : a = (figs size.toNat : Nat)) (h : 99 < ex + a - 1) : dec c e d.toNat = none := by
  obtain ⟨h1, h2⟩ := drop_exit inv hx
  subst h1 h2 ha
  rw [Int.toNat_natCast] at h
  unfold dec decOf
  rw [if_neg (drop_nz inv), if_pos (by omega)]
theorem made_low {c e d size ex a : Int} (inv : DropInv (sizeOf' c d.toNat) (e + more c d.toNat) size ex) (hx : size.fmod 10 ≠ 0) (ha : a = (figs size.toNat : Nat)) (h : ¬ 99 < ex + a - 1) (h' : ex + a - 1 < -99) : dec c e d.toNat = some (0, 0) := by
  obtain ⟨h1, h2⟩ := drop_exit inv hx
  subst h1 h2 ha
  rw [Int.toNat_natCast] at h h'
  unfold dec decOf
  rw [if_neg (drop_nz inv), if_neg (by omega), if_pos (by omega)]
theorem made_mid {c e d size ex a : Int} (inv : DropInv (sizeOf' c d.toNat) (e + more c d.toNat) size ex) (hx : size.fmod 10 ≠ 0) (ha : a = (figs size.toNat : Nat)) (h : ¬ 99 < ex + a - 1) (h' : ¬ ex + a - 1 < -99) :
    dec c e d.toNat = some (if c < 0 then -size else size, ex) := by
  obtain ⟨h1, h2⟩ := drop_exit inv hx
  subst h1 h2 ha
  rw [Int.toNat_natCast] at h h'
  unfold dec decOf
  rw [if_neg (drop_nz inv), if_neg (by omega), if_neg (by omega)]
  simp only [decide_eq_true_eq]
theorem made_midN {c e d size ex a : Int} (inv : DropInv (sizeOf' c d.toNat) (e + more c d.toNat) size ex) (hx : size.fmod 10 ≠ 0) (ha : a = (figs size.toNat : Nat)) (h : ¬ 99 < ex + a - 1) (h' : ¬ ex + a - 1 < -99) (hc : c < 0) :
    dec c e d.toNat = some (-size, ex) := by rw [made_mid inv hx ha h h', if_pos hc]
theorem made_midP {c e d size ex a : Int} (inv : DropInv (sizeOf' c d.toNat) (e + more c d.toNat) size ex) (hx : size.fmod 10 ≠ 0) (ha : a = (figs size.toNat : Nat)) (h : ¬ 99 < ex + a - 1) (h' : ¬ ex + a - 1 < -99) (hc : ¬ c < 0) :
    dec c e d.toNat = some (size, ex) := by rw [made_mid inv hx ha h h', if_neg hc]
theorem drop_turn' {n : Nat} {e size ex : Int} (inv : DropInv n e size ex) (h : size.fmod 10 = 0) : 0 < size.fdiv 10 ∧ DropInv n e (size.fdiv 10) (ex + 1) := by
  have q := drop_turn inv h
  obtain ⟨z, _, _, h3⟩ := id q
  exact ⟨h3, q⟩
end Mine
namespace Mine
/-- a contract of a def that may raise OV, just where P holds -/
noncomputable def TellX (w : World) (k : Nat) (f : Addr) (vs : List Value) (news : List (Addr × Obj)) (R : Value → List (Addr × Obj) → Prop) (P : Prop) : Prop :=
  ∀ (loose : List Str) (mean : ExcName → Option Value) (mg mb : Str → Option Value)
    (dp un : Nat) (gd : Option (List Code)) (cn : Str) (cs : Scope) (a : Addr) (ccd : Value) (cl : List (Str × Addr)) (outer : List Env) (A₀ : Around) (base h₀ : Heap) (L : Addr) (m : Str → Option Value) (s : Shared) (Q E : Value → Shared → Prop),
    Below A₀ base outer h₀ → Fr h₀ L s.heap m → (Mine.hd.heap_39 w.params).In h₀ → News h₀ L s.heap news → Top Mine.hd.view_39 loose mean mg mb h₀ → cs.kind = .function →
    dp + k < recursionLimit → un + 8 * k < cLine →
    (∀ v news' h' tk', R v news' → Fr h₀ L h' m → News h₀ L h' news' → Q v { s with heap := h', toks := tk' }) →
    (P → ∀ e h' tk' g tc, Fr h₀ L g m → RaisedC base g (envX cn cs L a ccd cl :: outer) e news (.str (Str.ofString "OV") tc) h' → g.UpToSlots h' → E (.ref e) { s with heap := h', toks := tk' }) →
      wpAny (model theProg w) (ktrTop dp un gd cn cs L a ccd cl outer) (call (.ref f) vs) Q E s
theorem TellX.use {w : World} {k : Nat} {f : Addr} {vs : List Value} {news : List (Addr × Obj)} {R : Value → List (Addr × Obj) → Prop} {P : Prop} (C : TellX w k f vs news R P)
    {loose : List Str} {mean : ExcName → Option Value} {mg mb : Str → Option Value}
    {dp un : Nat} {gd : Option (List Code)} {cn : Str} {cs : Scope} {a : Addr} {ccd : Value} {cl : List (Str × Addr)} {outer : List Env} {A₀ : Around} {base h₀ : Heap} {L : Addr} {m : Str → Option Value} {s : Shared} {Q E : Value → Shared → Prop}
    (B : Below A₀ base outer h₀) (F : Fr h₀ L s.heap m) (X : (Mine.hd.heap_39 w.params).In h₀) (N : News h₀ L s.heap news) (T : Top Mine.hd.view_39 loose mean mg mb h₀) (hk : cs.kind = .function)
    (hd : dp + k < recursionLimit) (hu : un + 8 * k < cLine)
    (ret : ∀ v news' h' tk', R v news' → Fr h₀ L h' m → News h₀ L h' news' → Q v { s with heap := h', toks := tk' })
    (exc : P → ∀ e h' tk' g tc, Fr h₀ L g m → RaisedC base g (envX cn cs L a ccd cl :: outer) e news (.str (Str.ofString "OV") tc) h' → g.UpToSlots h' → E (.ref e) { s with heap := h', toks := tk' }) :
    wpAny (model theProg w) (ktrTop dp un gd cn cs L a ccd cl outer) (call (.ref f) vs) Q E s :=
  C loose mean mg mb dp un gd cn cs a ccd cl outer A₀ base h₀ L m s Q E B F X N T hk hd hu ret exc
theorem abs_tell {M : Program} {w : World} {A : Around} {E : Value → Shared → Prop} {s : Shared} {n : Int} {t : Tok} {Q : Value → Shared → Prop} (h : ∀ t' k, Q (.int (n.natAbs : Int) t') { s with toks := k }) :
    wpAny (model M w) A (call (.builtin "abs") [.int n t]) Q E s := by
  have e : (if n < 0 then -n else n) = (n.natAbs : Int) := by split <;> omega
  exact call_abs_int fun u tk => by rw [e]; exact h u tk
theorem RaisedC.mono {base G : Heap} {l : List Env} {e : Addr} {news news' : List (Addr × Obj)} {c : Value} {h : Heap} (R : RaisedC base G l e news c h) (hs : ∀ p ∈ news', p ∈ news) : RaisedC base G l e news' c h :=
  let ⟨B, a0, h1, h3, h2, r⟩ := R; ⟨B, a0, h1, h3, fun q hq => h2 q (hs q hq), r⟩
end Mine
namespace Mine
set_option maxRecDepth 100000 in
set_option maxHeartbeats 8000000 in
theorem run_tell (w : World) (x : Str) (t : Tok) (i : Int) (ti : Tok) (h0 : 0 ≤ i) (h1 : i ≤ x.length) (hx : x.length ≤ 100) (news : List (Addr × Obj)) :
    Tell w 1 66 [.str x t, .int i ti] news (fun v news' => ∃ l a b c t1 t2 t3, (v = .ref l ∧ news' = (l, { cls := .type "tuple", data := .seq #[.int a t1, .int b t2, .int c t3] }) :: news) ∧ AllLt l news ∧
      a = val (digs (from' x i)) ∧ b = (digs (from' x i)).length ∧ c = i + (digs (from' x i)).length ∧ 0 ≤ b ∧ b ≤ 100 ∧ 0 ≤ c ∧ c ≤ x.length) := by
  unfold Tell
  intro prog loose mean mg mb dp un gd cn cs a ccd cl outer A₀ base h₀ L m s Q E B F X N T hk hd hu hret
  refine wpAny_call ?_
  k_dflt cell_enter
  k_with_none
  k_with "state" => ((try dsimp only); first | exact ⟨Int.le_refl _, run_start h0⟩ | exact ⟨by omega, run_turn (by assumption) (by assumption) (by assumption) (by assumption)⟩)
  k_with "measure" => exact run_measure (by assumption)
  repeat' ((fail_if_success (with_reducible show wpAny _ _ (exec (Stmt.While _ _ _ _) _) _ _ _)); walk1)
  rename Fr _ _ _ _ => F1
  refine join_exec (ι := Int × Tok × Int × Tok) F1 news (fun i' m' y => if y = Str.ofString "begin" then some (.int i ti) else if y = Str.ofString "found" then some (.int i'.1 i'.2.1) else if y = Str.ofString "at" then some (.int i'.2.2.1 i'.2.2.2) else m' y) (fun i' => RunOut x i i'.1 i'.2.2.1) ?_ ?_
  · k_while (fun _ found at' => i ≤ at' ∧ RunInv x i found at') (fun _ found at' => (x.length - at').toNat) "found" "at"
    k_steps
    all_goals refine Joined.intro (_, _, _, _) (Fr.sees [(Str.ofString "begin", _), (Str.ofString "found", _), (Str.ofString "at", _)] (by with_reducible assumption) (by repeat (first | exact trivial | refine And.intro rfl ?_))) (drop0 (by with_reducible assumption)) (run_exit (by assumption) (by first | exact Or.inl (by assumption) | exact Or.inr (Or.inl (by assumption)) | exact Or.inr (Or.inr (by assumption))))
  clear F1
  rintro ⟨fq, tf, cq, tc⟩ mC hC tkC FC NC ⟨sC1, sC2⟩
  dsimp only at FC sC1 sC2 ⊢
  k_steps
  refine hret _ _ _ _ ⟨_, _, _, _, _, _, _, ⟨rfl, rfl⟩, allLt_of (by assumption), ?_⟩ (by assumption) (by assumption)
  exact run_ends h0 h1 hx ⟨sC1, by omega, sC2⟩
end Mine
namespace Mine
theorem figs_ten {k : Nat} (h : 0 < k) : figs (10 * k) = figs k + 1 := by
  rw [figs]
  rw [if_neg (by omega)]
  congr 2
  omega
theorem figs_strip (n : Nat) (h : 0 < n) : figs n = (strip n).2 + figs (strip n).1 := by
  induction n using Nat.strongRecOn with
  | ind n ih =>
    unfold strip
    split
    · rename_i hh
      have h1 := ih (n / 10) (by omega) (by omega)
      have h2 : n = 10 * (n / 10) := by omega
      have h3 := figs_ten (k := n / 10) (by omega)
      rw [← h2] at h3
      dsimp only
      omega
    · simp
theorem figs_div (n : Nat) : ∀ m, m < figs n → figs (n / 10 ^ m) = figs n - m
  | 0, _ => by simp
  | m + 1, h => by
    have h1 := figs_div n m (by omega)
    rw [Nat.pow_succ, ← Nat.div_div_eq_div_mul]
    generalize n / 10 ^ m = q at h1
    rw [figs] at h1
    split at h1 <;> omega
theorem figs_succ (q : Nat) : figs (q + 1) ≤ figs q + 1 := by
  have := figs_lt q
  refine figs_bound (by omega) ?_
  rw [Nat.pow_succ]
  have := Nat.pow_pos (n := figs q) (show 0 < 10 by decide)
  omega
theorem fdiv_nat (n p : Nat) : (n : Int).fdiv (10 ^ p) = ((n / 10 ^ p : Nat) : Int) := by
  rw [Int.fdiv_eq_ediv_of_nonneg _ (Int.le_of_lt (Int.pow_pos (by decide)))]
  simp
theorem rnd_near (n p : Nat) : (rnd n p).toNat = n / 10 ^ p ∨ (rnd n p).toNat = n / 10 ^ p + 1 := by
  unfold rnd
  rw [fdiv_nat]
  generalize n / 10 ^ p = q
  split
  · exact .inr (Int.toNat_natCast (q + 1))
  · exact .inl (Int.toNat_natCast q)
theorem size_figs {c : Int} {d : Nat} (hd : 1 ≤ d) (hc : c ≠ 0) : 0 < sizeOf' c d ∧ (figs (sizeOf' c d) = figs c.natAbs - more c d ∨ figs (sizeOf' c d) = figs c.natAbs - more c d + 1) ∧ more c d < figs c.natAbs := by
  have hp := figs_pos c.natAbs
  have hm : more c d < figs c.natAbs := by unfold more; omega
  have h1 := figs_div c.natAbs _ hm
  have hq : 0 < c.natAbs / 10 ^ more c d := by
    rcases figs_le c.natAbs with h | h
    · have : more c d = 0 := by omega
      rw [this]; simp; omega
    · refine Nat.div_pos ?_ (Nat.pow_pos (by decide))
      exact Nat.le_trans (Nat.pow_le_pow_right (by decide) (by omega)) h
  have h2 := figs_succ (c.natAbs / 10 ^ more c d)
  have h3 := figs_mono (show c.natAbs / 10 ^ more c d ≤ c.natAbs / 10 ^ more c d + 1 by omega)
  unfold sizeOf'
  rcases rnd_near c.natAbs (more c d) with h | h <;> rw [h] <;> omega
theorem dec_zero (e : Int) (d : Nat) : dec 0 e d = some (0, 0) := by
  have : rnd ((0 : Int).natAbs : Int) (more 0 d) = 0 := by
    have h := rnd_near 0 (more 0 d)
    have h0 := rnd_nonneg (n := 0) (by omega) (more 0 d)
    have : more 0 d = 0 ∨ more 0 d = 1 := by
      have : figs 0 = 1 := by rw [figs]; simp
      unfold more
      simp only [Int.natAbs_zero, this]
      omega
    rcases this with q | q <;> rw [q] <;> decide
  unfold dec decOf
  rw [this]
  rfl
theorem dec_first {c e : Int} {d : Nat} (hd : 1 ≤ d) (hc : c ≠ 0) :
    (e + figs c.natAbs - 1 > 99 → dec c e d = none) ∧ (e + figs c.natAbs < -99 → dec c e d = some (0, 0)) := by
  obtain ⟨h0, h1, h2⟩ := size_figs hd hc
  have h3 := figs_strip _ h0
  constructor
  · intro h
    unfold dec decOf
    rw [if_neg (by show ¬ sizeOf' c d = 0; omega), if_pos]
    show e + (more c d : Int) + (strip (sizeOf' c d)).2 + figs (strip (sizeOf' c d)).1 - 1 > 99
    omega
  · intro h
    unfold dec decOf
    rw [if_neg (by show ¬ sizeOf' c d = 0; omega), if_neg, if_pos]
    · show e + (more c d : Int) + (strip (sizeOf' c d)).2 + figs (strip (sizeOf' c d)).1 - 1 < -99
      omega
    · show ¬ e + (more c d : Int) + (strip (sizeOf' c d)).2 + figs (strip (sizeOf' c d)).1 - 1 > 99
      omega
theorem told_low {c e d a : Int} (hd : 1 ≤ d) (ha : a = (figs c.natAbs : Nat)) (hc : c ≠ 0) (h : e + a - 1 < -2 * 99) : dec c e d.toNat = some (0, 0) :=
  (dec_first (by omega) hc).2 (by omega)
theorem told_high {c e d a : Int} (hd : 1 ≤ d) (ha : a = (figs c.natAbs : Nat)) (hc : c ≠ 0) (h : 2 * 99 < e + a - 1) : dec c e d.toNat = none :=
  (dec_first (by omega) hc).1 (by omega)
end Mine
namespace Mine
theorem slice_clip (x : Str) {i j : Int} (hi : 0 ≤ i) (hj : 0 ≤ j) : Txt.slice x (some i) (some j) = Txt.slice x (some (min i x.length)) (some (min j x.length)) := by
  have e : Builtin.Str.strSliceIndices (some i) (some j) 1 x.length = Builtin.Str.strSliceIndices (some (min i x.length)) (some (min j x.length)) 1 x.length := by
    have h1 : ¬ i < 0 := by omega
    have h2 : ¬ j < 0 := by omega
    have h3 : ¬ min i (x.length : Int) < 0 := by omega
    have h4 : ¬ min j (x.length : Int) < 0 := by omega
    simp only [Builtin.Str.strSliceIndices, h1, h2, h3, h4, if_false]
    congr 1 <;> simp <;> omega
  unfold Txt.slice
  simp only [e]
theorem slice1 {x : Str} {j : Int} (h0 : 0 ≤ j) : (Txt.slice x (some j) (some (j + 1))).cps.toList = (from' x j).take 1 := by
  have hl : x.cps.toList.length = x.length := by simp [Str.length]
  by_cases hj : j < x.length
  · have h := slice_closes (x := x) (i := j) (j := j + 1) ⟨h0, by omega, by rw [hl]; omega⟩
    rw [eq_of_beq h]
    simp only [from', List.toList_toArray]
    congr 1
    rw [Int.add_comm, Int.add_sub_cancel]
    rfl
  · rw [slice_clip x h0 (by omega)]
    have e1 : min j (x.length : Int) = x.length := Int.min_eq_right (Int.not_lt.mp hj)
    have e2 : min (j + 1) (x.length : Int) = x.length := Int.min_eq_right (Int.le_trans (Int.not_lt.mp hj) (by omega))
    have h := slice_closes (x := x) (i := (x.length : Int)) (j := (x.length : Int)) ⟨Int.natCast_nonneg _, Int.le_refl _, by rw [hl]; exact Int.le_refl _⟩
    rw [e1, e2, eq_of_beq h]
    simp only [from', List.toList_toArray]
    rw [List.drop_eq_nil_of_le (by rw [Int.toNat_natCast]; exact Nat.le_of_eq hl), List.drop_eq_nil_of_le (by clear h e1 e2; omega)]
    simp
theorem str_eq {a b : Str} : (a == b) = true ↔ a.cps.toList = b.cps.toList := by
  constructor
  · intro h; rw [eq_of_beq h]
  · intro h
    obtain ⟨⟨la⟩⟩ := a
    obtain ⟨⟨lb⟩⟩ := b
    simp only at h
    subst h
    simp
theorem take1 {l : List Nat} {c : Nat} : l.take 1 = [c] ↔ ∃ r, l = c :: r := by
  cases l with
  | nil => simp
  | cons a r => simp
theorem sl_is {x : Str} {j : Int} {c : Nat} (h0 : 0 ≤ j) : (Txt.slice x (some j) (some (j + 1)) == ⟨#[c]⟩) = true ↔ ∃ r, from' x j = c :: r := by
  rw [str_eq, slice1 h0]
  exact take1
end Mine
namespace Mine
theorem drop2 {h₀ h : Heap} {L : Addr} {p q r : Addr × Obj} {news : List (Addr × Obj)} (N : News h₀ L h (p :: q :: r :: news)) : News h₀ L h (p :: news) := drop1 (drop1 N)
theorem from_add {x : Str} {i : Int} (h0 : 0 ≤ i) (k : Nat) : from' x (i + k) = (from' x i).drop k := by
  unfold from'
  rw [List.drop_drop]
  congr 1
  rw [Int.toNat_add h0 (Int.natCast_nonneg _), Int.toNat_natCast]
theorem from_add1 {x : Str} {i : Int} (h0 : 0 ≤ i) : from' x (i + 1) = (from' x i).drop 1 := from_add h0 1
theorem from_end {n : Nat} {i : Int} (h0 : 0 ≤ i) (h : n - i.toNat = 0) : (n : Int) ≤ i := by omega
theorem from_nil {x : Str} {i : Int} (h : (x.length : Int) ≤ i) : from' x i = [] := by
  apply List.eq_nil_of_length_eq_zero
  rw [from_length]
  omega
theorem from_lt {x : Str} {i : Int} {c : Nat} {r : List Nat} (h0 : 0 ≤ i) (q : from' x i = c :: r) : i + 1 ≤ x.length := by
  by_cases h : (x.length : Int) ≤ i
  · rw [from_nil h] at q; cases q
  · exact Int.not_le.mp h
theorem from_cons {x : Str} {i : Int} (h0 : 0 ≤ i) (h : ¬ (x.length : Int) ≤ i) : ∃ c r, from' x i = c :: r ∧ Txt.item x i = ⟨#[c]⟩ := by
  cases q : from' x i with
  | nil =>
    have := congrArg List.length q
    rw [from_length] at this
    simp at this
    exact absurd (from_end h0 this) h
  | cons c r => exact ⟨c, r, rfl, item_eq (pre := []) h0 q (by simp)⟩
theorem minus_is : Str.ofString "-" = ⟨#[45]⟩ := by decide +kernel
theorem plus_is : Str.ofString "+" = ⟨#[43]⟩ := by decide +kernel
theorem sl_minus {x : Str} {j : Int} (h0 : 0 ≤ j) : (Txt.slice x (some j) (some (j + 1)) == Str.ofString "-") = true ↔ ∃ r, from' x j = 45 :: r := by rw [minus_is]; exact sl_is h0
theorem sl_minusF {x : Str} {j : Int} (h0 : 0 ≤ j) : (Txt.slice x (some j) (some (j + 1)) == Str.ofString "-") = false ↔ ¬ ∃ r, from' x j = 45 :: r := by
  rw [← sl_minus h0]; simp
theorem any_sign {x : Str} {j : Int} (h0 : 0 ≤ j) : ([Str.ofString "+", Str.ofString "-"].any fun y => y == Txt.slice x (some j) (some (j + 1))) = true ↔ (∃ r, from' x j = 43 :: r) ∨ ∃ r, from' x j = 45 :: r := by
  rw [minus_is, plus_is, ← sl_is h0, ← sl_is h0]
  simp only [List.any_cons, List.any_nil, Bool.or_false, Bool.or_eq_true]
  constructor
  · rintro (h | h)
    · exact .inl (by rw [eq_of_beq h]; exact beq_self_eq_true _)
    · exact .inr (by rw [eq_of_beq h]; exact beq_self_eq_true _)
  · rintro (h | h)
    · exact .inl (by rw [eq_of_beq h]; exact beq_self_eq_true _)
    · exact .inr (by rw [eq_of_beq h]; exact beq_self_eq_true _)
theorem any_signF {x : Str} {j : Int} (h0 : 0 ≤ j) : ([Str.ofString "+", Str.ofString "-"].any fun y => y == Txt.slice x (some j) (some (j + 1))) = false ↔ ¬ ((∃ r, from' x j = 43 :: r) ∨ ∃ r, from' x j = 45 :: r) := by
  rw [← any_sign h0]; simp
theorem sign_len {x : Str} {j : Int} (h0 : 0 ≤ j) (h : ([Str.ofString "+", Str.ofString "-"].any fun y => y == Txt.slice x (some j) (some (j + 1))) = true) : j + 1 ≤ x.length := by
  have h1 : ∃ c r, from' x j = c :: r := by
    rcases (any_sign h0).mp h with ⟨r, q⟩ | ⟨r, q⟩ <;> exact ⟨_, _, q⟩
  obtain ⟨c, r, q⟩ := h1
  exact from_lt h0 q
noncomputable def signOf (r : List Nat) : Int × Nat := if r.head? = some 45 then (-1, 1) else if r.head? = some 43 then (1, 1) else (1, 0)
noncomputable def isE (c : Nat) : Bool := c == 69 || c == 101 || c == 68 || c == 100
/-- what the exponent at the head of a text tells, and how long it is -/
noncomputable def expo (l : List Nat) : Int × Nat :=
  match l with
  | [] => (0, 0)
  | c :: r => if isE c then
      (if digs (r.drop (signOf r).2) = [] then (0, 0) else ((signOf r).1 * min (val (digs (r.drop (signOf r).2))) 9999, 1 + (signOf r).2 + (digs (r.drop (signOf r).2)).length))
    else (0, 0)
theorem inEe {c : Nat} : (Builtin.Str.occurrences (Str.ofString "EeDd") ⟨#[c]⟩ 0 (Str.ofString "EeDd").length 1).isEmpty = !isE c := by
  have h := StrLaws.found_one (Str.ofString "EeDd") c
  rw [show (Str.ofString "EeDd").cps.toList = [69, 101, 68, 100] from by decide +kernel] at h
  have h2 : decide (c ∈ [69, 101, 68, 100]) = isE c := by
    unfold isE
    rw [Bool.eq_iff_iff]
    simp [or_assoc]
  rw [h2] at h
  rw [← h]; simp
theorem expo_a {x : Str} {i : Int} (h : (x.length : Int) ≤ i) : 0 = (expo (from' x i)).1 ∧ i = i + (expo (from' x i)).2 := by
  rw [from_nil h]; simp [expo]
theorem expo_b {x : Str} {i : Int} (h0 : 0 ≤ i) (h : ¬ (x.length : Int) ≤ i) (ho : (Builtin.Str.occurrences (Str.ofString "EeDd") (Txt.item x i) 0 (Str.ofString "EeDd").length 1).isEmpty = true) :
    0 = (expo (from' x i)).1 ∧ i = i + (expo (from' x i)).2 := by
  obtain ⟨c, r, h1, h2⟩ := from_cons h0 h
  rw [h2, inEe] at ho
  rw [h1]
  simp only [Bool.not_eq_true'] at ho
  simp [expo, ho]
theorem min_ite (a : Int) : (if 9999 < a then 9999 else a) = min a 9999 := by
  split
  · rename_i h; exact (Int.min_eq_right (Int.le_of_lt h)).symm
  · rename_i h; exact (Int.min_eq_left (Int.not_lt.mp h)).symm
theorem expo_core {x : Str} {i a b c : Int} {k : Nat} {sg : Int} {r : List Nat} {ch : Nat} (h0 : 0 ≤ i) (hf : from' x i = ch :: r) (hE : isE ch = true) (hs : signOf r = (sg, k))
    (ea : a = val (digs (from' x (i + (1 + k : Nat))))) (eb : b = (digs (from' x (i + (1 + k : Nat)))).length) (ec : c = i + (1 + k : Nat) + (digs (from' x (i + (1 + k : Nat)))).length) :
    (b = 0 → 0 = (expo (from' x i)).1 ∧ i = i + (expo (from' x i)).2) ∧ (b ≠ 0 → (sg * if 9999 < a then 9999 else a) = (expo (from' x i)).1 ∧ c = i + (expo (from' x i)).2) := by
  have hd : from' x (i + (1 + k : Nat)) = r.drop k := by
    rw [from_add h0, hf, Nat.add_comm, List.drop_succ_cons]
  rw [hd] at ea eb ec
  rw [hf]
  simp only [expo, hE, if_true, hs]
  constructor
  · intro hb
    rw [if_pos (List.eq_nil_of_length_eq_zero (by omega))]
    simp
  · intro hb
    have hD : ¬ digs (List.drop k r) = [] := fun q => by rw [q] at eb; simp at eb; omega
    rw [if_neg hD]
    refine ⟨by rw [min_ite, ea], ?_⟩
    dsimp only
    omega
theorem expo_head {x : Str} {i : Int} (h0 : 0 ≤ i) (h : ¬ (x.length : Int) ≤ i) (ho : (Builtin.Str.occurrences (Str.ofString "EeDd") (Txt.item x i) 0 (Str.ofString "EeDd").length 1).isEmpty = false) :
    ∃ c r, from' x i = c :: r ∧ isE c = true ∧ from' x (i + 1) = r := by
  obtain ⟨c, r, h1, h2⟩ := from_cons h0 h
  rw [h2, inEe] at ho
  refine ⟨c, r, h1, by simpa using ho, ?_⟩
  rw [from_add1 h0, h1]; rfl
section
variable {x : Str} {i a b c : Int} (h0 : 0 ≤ i) (h : ¬ (x.length : Int) ≤ i) (ho : (Builtin.Str.occurrences (Str.ofString "EeDd") (Txt.item x i) 0 (Str.ofString "EeDd").length 1).isEmpty = false)
include h0 h ho
theorem expo_minus (hs : (Txt.slice x (some (i + 1)) (some (i + 1 + 1)) == Str.ofString "-") = true)
    (ea : a = val (digs (from' x (i + 1 + 1)))) (eb : b = (digs (from' x (i + 1 + 1))).length) (ec : c = i + 1 + 1 + (digs (from' x (i + 1 + 1))).length) :
    (b = 0 → 0 = (expo (from' x i)).1 ∧ i = i + (expo (from' x i)).2) ∧ (b ≠ 0 → (-1 * if 9999 < a then 9999 else a) = (expo (from' x i)).1 ∧ c = i + (expo (from' x i)).2) := by
  obtain ⟨ch, r, h1, h2, h3⟩ := expo_head h0 h ho
  obtain ⟨r', h4⟩ := (sl_minus (by omega)).mp hs
  rw [h3] at h4
  have e : i + ((1 + 1 : Nat) : Int) = i + 1 + 1 := by omega
  exact expo_core (k := 1) h0 h1 h2 (by rw [h4]; rfl) (by rw [e]; exact ea) (by rw [e]; exact eb) (by rw [e]; exact ec)
theorem expo_plus (hs : (Txt.slice x (some (i + 1)) (some (i + 1 + 1)) == Str.ofString "-") = false)
    (hp : ([Str.ofString "+", Str.ofString "-"].any fun y => y == Txt.slice x (some (i + 1)) (some (i + 1 + 1))) = true)
    (ea : a = val (digs (from' x (i + 1 + 1)))) (eb : b = (digs (from' x (i + 1 + 1))).length) (ec : c = i + 1 + 1 + (digs (from' x (i + 1 + 1))).length) :
    (b = 0 → 0 = (expo (from' x i)).1 ∧ i = i + (expo (from' x i)).2) ∧ (b ≠ 0 → (1 * if 9999 < a then 9999 else a) = (expo (from' x i)).1 ∧ c = i + (expo (from' x i)).2) := by
  obtain ⟨ch, r, h1, h2, h3⟩ := expo_head h0 h ho
  have hn := (sl_minusF (by omega)).mp hs
  have h4 := (any_sign (by omega)).mp hp
  obtain ⟨r', h4⟩ := h4.resolve_right hn
  rw [h3] at h4
  have e : i + ((1 + 1 : Nat) : Int) = i + 1 + 1 := by omega
  exact expo_core (k := 1) h0 h1 h2 (by rw [h4]; rfl) (by rw [e]; exact ea) (by rw [e]; exact eb) (by rw [e]; exact ec)
theorem expo_none (hp : ([Str.ofString "+", Str.ofString "-"].any fun y => y == Txt.slice x (some (i + 1)) (some (i + 1 + 1))) = false)
    (ea : a = val (digs (from' x (i + 1)))) (eb : b = (digs (from' x (i + 1))).length) (ec : c = i + 1 + (digs (from' x (i + 1))).length) :
    (b = 0 → 0 = (expo (from' x i)).1 ∧ i = i + (expo (from' x i)).2) ∧ (b ≠ 0 → (1 * if 9999 < a then 9999 else a) = (expo (from' x i)).1 ∧ c = i + (expo (from' x i)).2) := by
  obtain ⟨ch, r, h1, h2, h3⟩ := expo_head h0 h ho
  have h4 := (any_signF (by omega)).mp hp
  rw [h3] at h4
  have hs : signOf r = (1, 0) := by
    unfold signOf
    cases r with
    | nil => rfl
    | cons d r' =>
      rw [if_neg (fun q => h4 (.inr ⟨r', by rw [Option.some.inj q]⟩)), if_neg (fun q => h4 (.inl ⟨r', by rw [Option.some.inj q]⟩))]
  have e : i + ((1 + 0 : Nat) : Int) = i + 1 := by omega
  exact expo_core (k := 0) h0 h1 h2 hs (by rw [e]; exact ea) (by rw [e]; exact eb) (by rw [e]; exact ec)
end
theorem sign_absurd {x : Str} {j : Int} (hs : (Txt.slice x (some j) (some (j + 1)) == Str.ofString "-") = true)
    (hp : ([Str.ofString "+", Str.ofString "-"].any fun y => y == Txt.slice x (some j) (some (j + 1))) = false) (h0 : 0 ≤ j) : False :=
  (any_signF h0).mp hp (.inr ((sl_minus h0).mp hs))
end Mine
namespace Mine
noncomputable def isBlank (c : Nat) : Bool := c == 32 || c == 9
noncomputable def pB (l : List Nat) : Nat := (l.takeWhile isBlank).length
noncomputable def p1 (l : List Nat) : List Nat := l.drop (pB l)
noncomputable def pS (l : List Nat) : Nat := (signOf (p1 l)).2
noncomputable def p2 (l : List Nat) : List Nat := (p1 l).drop (pS l)
noncomputable def pA (l : List Nat) : List Nat := digs (p2 l)
noncomputable def p3 (l : List Nat) : List Nat := (p2 l).drop (pA l).length
noncomputable def pP (l : List Nat) : Bool := (p3 l).head? == some 46
noncomputable def pD (l : List Nat) : List Nat := if pP l then digs ((p3 l).drop 1) else []
noncomputable def pF (l : List Nat) : Int := val (pA l) * 10 ^ (pD l).length + val (pD l)
noncomputable def pN (l : List Nat) : Nat := (pA l).length + (pD l).length
noncomputable def pK (l : List Nat) : Nat := if pP l && decide (0 < pN l) then 1 + (pD l).length else 0
noncomputable def p4 (l : List Nat) : List Nat := (p3 l).drop (pK l)
noncomputable def pE (l : List Nat) : Int × Nat := expo (p4 l)
noncomputable def pAt (l : List Nat) : Nat := pB l + pS l + (pA l).length + pK l + (pE l).2
noncomputable def pC (l : List Nat) : Int := if (p1 l).head? = some 45 then 0 - pF l else pF l
noncomputable def pR (l : List Nat) (d : Nat) : Option (Int × Int) := dec (pC l) ((pE l).1 - (pD l).length) d

theorem from_nat (x : Str) (k : Nat) : from' x k = x.cps.toList.drop k := by unfold from'; rw [Int.toNat_natCast]
theorem digs_all (l : List Nat) : ∀ c ∈ digs l, isDig c = true := by
  intro c hc
  unfold digs at hc
  induction l with
  | nil => cases hc
  | cons a t ih =>
    rw [List.takeWhile_cons] at hc
    split at hc
    · rename_i h
      rcases List.mem_cons.mp hc with rfl | hc
      · exact h
      · exact ih hc
    · cases hc
theorem val_go : ∀ (l : List Nat) (a : Int), 0 ≤ a → (∀ c ∈ l, isDig c = true) →
    0 ≤ l.foldl (fun (a : Int) (c : Nat) => 10 * a + (c : Int) - 48) a ∧ l.foldl (fun (a : Int) (c : Nat) => 10 * a + (c : Int) - 48) a < (a + 1) * ((10 ^ l.length : Nat) : Int)
  | [], a, h, _ => by simp; omega
  | c :: r, a, h, hd => by
    have h2 := hd c (.head _)
    simp [isDig] at h2
    have ih := val_go r (10 * a + c - 48) (by omega) fun d hd' => hd d (.tail _ hd')
    rw [List.foldl_cons, List.length_cons, Nat.pow_succ]
    refine ⟨ih.1, Int.lt_of_lt_of_le ih.2 ?_⟩
    have hp : (0 : Int) ≤ ((10 ^ r.length : Nat) : Int) := Int.natCast_nonneg _
    have := Int.mul_le_mul_of_nonneg_right (show 10 * a + (c : Int) - 48 + 1 ≤ (a + 1) * 10 by omega) hp
    rw [Int.natCast_mul, Int.mul_comm ((10 ^ r.length : Nat) : Int), ← Int.mul_assoc]
    exact this
theorem val_bound (l : List Nat) (h : ∀ c ∈ l, isDig c = true) : 0 ≤ val l ∧ val l < ((10 ^ l.length : Nat) : Int) := by
  have := val_go l 0 (by omega) h
  unfold val
  omega
noncomputable def BlankInv (x : Str) (j : Int) : Prop := ∃ pre post, x.cps.toList = pre ++ post ∧ (∀ c ∈ pre, isBlank c = true) ∧ j = pre.length
theorem blank_start (x : Str) : BlankInv x 0 := ⟨[], _, rfl, by simp, by simp⟩
theorem inBlank {c : Nat} : (Builtin.Str.occurrences (Str.ofString " \t") ⟨#[c]⟩ 0 (Str.ofString " \t").length 1).isEmpty = !isBlank c := by
  have h := StrLaws.found_one (Str.ofString " \t") c
  have h2 : decide (c ∈ (Str.ofString " \t").cps.toList) = isBlank c := by
    rw [show (Str.ofString " \t").cps.toList = [32, 9] from by decide +kernel]
    unfold isBlank
    rw [Bool.eq_iff_iff]
    simp
  rw [h2] at h
  rw [← h]; simp
theorem blank_len {x : Str} {j : Int} (inv : BlankInv x j) : 0 ≤ j ∧ j ≤ x.length := by
  obtain ⟨pre, post, h1, h2, h3⟩ := inv
  have := congrArg List.length h1
  simp at this
  have hl : x.cps.size = x.length := rfl
  omega
theorem blank_turn {x : Str} {j : Int} (inv : BlankInv x j) (hlt : j < x.length)
    (ho : (Builtin.Str.occurrences (Str.ofString " \t") (Txt.item x j) 0 (Str.ofString " \t").length 1).isEmpty = false) : BlankInv x (j + 1) := by
  have hl := blank_len inv
  obtain ⟨pre, post, h1, h2, h3⟩ := inv
  obtain ⟨c, r, q1, q2⟩ := from_cons hl.1 (by omega : ¬ (x.length : Int) ≤ j)
  rw [q2, inBlank] at ho
  have q3 : from' x j = post := by
    rw [h3, from_nat, h1]; simp
  rw [q3] at q1
  refine ⟨pre ++ [c], r, by rw [h1, q1]; simp, fun d hd => ?_, by simp; omega⟩
  rcases List.mem_append.mp hd with hd | hd
  · exact h2 d hd
  · rw [List.mem_singleton.mp hd]; simpa using ho
theorem takeWhile_split {p : Nat → Bool} {pre post : List Nat} (hp : ∀ c ∈ pre, p c = true) (hq : ∀ c r, post = c :: r → p c = false) : (pre ++ post).takeWhile p = pre := by
  induction pre with
  | nil =>
    cases post with
    | nil => rfl
    | cons c r => simp [hq c r rfl]
  | cons a t ih =>
    rw [List.cons_append, List.takeWhile_cons, hp a (.head _)]
    simp only [if_true]
    rw [ih fun c hc => hp c (.tail _ hc)]
noncomputable def S1 (x : Str) (j : Int) : Prop := j = (pB x.cps.toList : Nat)
theorem blank_exit {x : Str} {j : Int} (inv : BlankInv x j) (h : ¬ j < x.length ∨ (Builtin.Str.occurrences (Str.ofString " \t") (Txt.item x j) 0 (Str.ofString " \t").length 1).isEmpty = true) : S1 x j := by
  have hl := blank_len inv
  obtain ⟨pre, post, h1, h2, h3⟩ := inv
  unfold S1 pB
  rw [h1, takeWhile_split h2]
  · exact h3
  · rintro c r rfl
    have q3 : from' x j = c :: r := by rw [h3, from_nat, h1]; simp
    rcases h with h | h
    · rw [from_nil (by omega)] at q3; cases q3
    · have q2 := item_eq (pre := []) (j := j) hl.1 q3 (by simp)
      rw [q2, inBlank] at h
      simpa using h
theorem S1_from {x : Str} {j : Int} (s : S1 x j) : from' x j = p1 x.cps.toList ∧ 0 ≤ j := by
  unfold S1 at s
  rw [s, from_nat]
  exact ⟨rfl, by omega⟩
noncomputable def S2 (x : Str) (j : Int) : Prop := j = (pB x.cps.toList + pS x.cps.toList : Nat)
theorem signOf_none {r : List Nat} (h : ¬ ((∃ t, r = 43 :: t) ∨ ∃ t, r = 45 :: t)) : signOf r = (1, 0) := by
  unfold signOf
  cases r with
  | nil => rfl
  | cons d t =>
    rw [if_neg (fun q => h (.inr ⟨t, by rw [Option.some.inj q]⟩)), if_neg (fun q => h (.inl ⟨t, by rw [Option.some.inj q]⟩))]
theorem s2p {x : Str} {j : Int} (s : S1 x j) (h : ([Str.ofString "+", Str.ofString "-"].any fun y => y == Txt.slice x (some j) (some (j + 1))) = true) : S2 x (j + 1) := by
  obtain ⟨h1, h0⟩ := S1_from s
  have h2 := (any_sign h0).mp h
  rw [h1] at h2
  unfold S2 pS
  unfold S1 at s
  have : (signOf (p1 x.cps.toList)).2 = 1 := by
    rcases h2 with ⟨t, q⟩ | ⟨t, q⟩ <;> rw [q] <;> rfl
  omega
theorem s2n {x : Str} {j : Int} (s : S1 x j) (h : ([Str.ofString "+", Str.ofString "-"].any fun y => y == Txt.slice x (some j) (some (j + 1))) = false) : S2 x j := by
  obtain ⟨h1, h0⟩ := S1_from s
  have h2 := (any_signF h0).mp h
  rw [h1] at h2
  unfold S2 pS
  unfold S1 at s
  rw [signOf_none h2]
  omega
theorem S2_from {x : Str} {j : Int} (s : S2 x j) : from' x j = p2 x.cps.toList := by
  unfold S2 at s
  rw [s, from_nat]
  unfold p2 p1
  rw [List.drop_drop]
noncomputable def S3 (x : Str) (a b c : Int) : Prop := a = val (pA x.cps.toList) ∧ b = (pA x.cps.toList).length ∧ c = (pB x.cps.toList + pS x.cps.toList + (pA x.cps.toList).length : Nat)
theorem s3 {x : Str} {j a b c : Int} (s : S2 x j) (ea : a = val (digs (from' x j))) (eb : b = (digs (from' x j)).length) (ec : c = j + (digs (from' x j)).length) : S3 x a b c := by
  rw [S2_from s] at ea eb ec
  unfold S2 at s
  exact ⟨ea, eb, by show c = ((pB x.cps.toList + pS x.cps.toList + (digs (p2 x.cps.toList)).length : Nat) : Int); omega⟩
theorem S3_from {x : Str} {a b c : Int} (s : S3 x a b c) : from' x c = p3 x.cps.toList ∧ 0 ≤ c := by
  obtain ⟨_, _, h⟩ := s
  rw [h, from_nat]
  refine ⟨?_, by omega⟩
  unfold p3 p2 p1
  rw [List.drop_drop, List.drop_drop]
  congr 1; omega
theorem dot_is : Str.ofString "." = ⟨#[46]⟩ := by decide +kernel
theorem head_is {l : List Nat} {c : Nat} : (∃ r, l = c :: r) ↔ l.head? = some c := by
  cases l with
  | nil => simp
  | cons a t => simp
noncomputable def S4 (x : Str) (f b c : Int) : Prop := f = pF x.cps.toList ∧ b = (pD x.cps.toList).length ∧ c = (pB x.cps.toList + pS x.cps.toList + (pA x.cps.toList).length + pK x.cps.toList : Nat)
theorem val_nil : val [] = 0 := rfl
theorem s4n {x : Str} {a b c : Int} (s : S3 x a b c) (h : (Txt.slice x (some c) (some (c + 1)) == Str.ofString ".") = false) : S4 x a 0 c := by
  obtain ⟨h1, h0⟩ := S3_from s
  have hP : pP x.cps.toList = false := by
    unfold pP
    rw [dot_is] at h
    have h2 : ¬ (Txt.slice x (some c) (some (c + 1)) == ⟨#[46]⟩) = true := by rw [h]; decide
    rw [sl_is h0, h1, head_is] at h2
    simpa using h2
  obtain ⟨e1, e2, e3⟩ := s
  have hD : pD x.cps.toList = [] := by unfold pD; rw [hP]; rfl
  refine ⟨?_, ?_, ?_⟩
  · unfold pF; rw [hD, val_nil, e1]; simp
  · rw [hD]; rfl
  · unfold pK; rw [hP, e3]; simp
theorem s4_dot {x : Str} {a b c : Int} (s : S3 x a b c) (h : (Txt.slice x (some c) (some (c + 1)) == Str.ofString ".") = true) : pP x.cps.toList = true ∧ from' x (c + 1) = (p3 x.cps.toList).drop 1 ∧ 0 ≤ c ∧ c + 1 ≤ x.length := by
  obtain ⟨h1, h0⟩ := S3_from s
  rw [dot_is, sl_is h0, h1, head_is] at h
  refine ⟨by unfold pP; rw [h]; rfl, by rw [from_add1 h0, h1], h0, ?_⟩
  rw [← h1] at h
  obtain ⟨r, q⟩ := head_is.mpr h
  exact from_lt h0 q
theorem s4y {x : Str} {a b c a' b' c' : Int} (s : S3 x a b c) (h : (Txt.slice x (some c) (some (c + 1)) == Str.ofString ".") = true)
    (ea : a' = val (digs (from' x (c + 1)))) (eb : b' = (digs (from' x (c + 1))).length) (ec : c' = c + 1 + (digs (from' x (c + 1))).length) :
    (0 < b + b' → S4 x (a * 10 ^ b'.toNat + a') b' c') ∧ (¬ 0 < b + b' → S4 x (a * 10 ^ b'.toNat + a') b' c) := by
  obtain ⟨hP, hf, _, _⟩ := s4_dot s h
  obtain ⟨e1, e2, e3⟩ := s
  have hD : pD x.cps.toList = digs ((p3 x.cps.toList).drop 1) := by unfold pD; rw [hP]; rfl
  rw [hf, ← hD] at ea eb ec
  have hF : a * 10 ^ b'.toNat + a' = pF x.cps.toList := by
    unfold pF; rw [ea, eb, e1, Int.toNat_natCast]
  refine ⟨fun h => ⟨hF, eb, ?_⟩, fun h => ⟨hF, eb, ?_⟩⟩
  · unfold pK pN
    rw [hP, decide_eq_true (by omega)]
    simp only [Bool.and_self, if_true]
    omega
  · unfold pK pN
    rw [hP, decide_eq_false (by omega)]
    simp only [Bool.and_false, Bool.false_eq_true, if_false]
    omega
theorem S4_from {x : Str} {f b c : Int} (s : S4 x f b c) : from' x c = p4 x.cps.toList ∧ 0 ≤ c := by
  obtain ⟨_, _, h⟩ := s
  rw [h, from_nat]
  refine ⟨?_, by omega⟩
  unfold p4 p3 p2 p1
  rw [List.drop_drop, List.drop_drop, List.drop_drop]
  congr 1; omega
theorem s5 {x : Str} {f b c e g : Int} (s : S4 x f b c) (he : e = (expo (from' x c)).1) (hg : g = c + (expo (from' x c)).2) : e = (pE x.cps.toList).1 ∧ g = (pAt x.cps.toList : Nat) := by
  obtain ⟨h1, _⟩ := S4_from s
  rw [h1] at he hg
  obtain ⟨_, _, e3⟩ := s
  exact ⟨he, by show g = ((pB x.cps.toList + pS x.cps.toList + (pA x.cps.toList).length + pK x.cps.toList + (expo (p4 x.cps.toList)).2 : Nat) : Int); omega⟩
theorem pN_zero {x : Str} {a b c f b' c' : Int} (s3 : S3 x a b c) (s4 : S4 x f b' c') : b + b' = (pN x.cps.toList : Nat) := by
  obtain ⟨_, e2, _⟩ := s3
  obtain ⟨_, e4, _⟩ := s4
  unfold pN
  omega
theorem S1_sign {x : Str} {j : Int} (s : S1 x j) : ((Txt.slice x (some j) (some (j + 1)) == Str.ofString "-") = true ↔ (p1 x.cps.toList).head? = some 45) := by
  obtain ⟨h1, h0⟩ := S1_from s
  rw [sl_minus h0, h1, head_is]
theorem s6n {x : Str} {j f b c e g : Int} (s1 : S1 x j) (s : S4 x f b c) (he : e = (expo (from' x c)).1) (hg : g = c + (expo (from' x c)).2) (h : (Txt.slice x (some j) (some (j + 1)) == Str.ofString "-") = true) (d : Nat) :
    dec (0 - f) (e - b) d = pR x.cps.toList d := by
  obtain ⟨h1, _⟩ := s5 s he hg
  obtain ⟨h2, h3, _⟩ := s
  unfold pR pC
  rw [if_pos ((S1_sign s1).mp h), h1, h2, h3]
theorem s6p {x : Str} {j f b c e g : Int} (s1 : S1 x j) (s : S4 x f b c) (he : e = (expo (from' x c)).1) (hg : g = c + (expo (from' x c)).2) (h : (Txt.slice x (some j) (some (j + 1)) == Str.ofString "-") = false) (d : Nat) :
    dec f (e - b) d = pR x.cps.toList d := by
  obtain ⟨h1, _⟩ := s5 s he hg
  obtain ⟨h2, h3, _⟩ := s
  unfold pR pC
  rw [if_neg (fun q => by rw [(S1_sign s1).mpr q] at h; cases h), h1, h2, h3]
theorem pF_bound {l : List Nat} (h : pN l ≤ 13) : 0 ≤ pF l ∧ pF l < ((10 ^ pN l : Nat) : Int) := by
  have h1 := val_bound (pA l) (digs_all _)
  have hD : ∀ c ∈ pD l, isDig c = true := by
    unfold pD
    split
    · exact digs_all _
    · intro c hc; cases hc
  have h2 := val_bound (pD l) hD
  have hp : (0 : Int) < ((10 ^ (pD l).length : Nat) : Int) := by have := Nat.pow_pos (n := (pD l).length) (show 0 < 10 by decide); omega
  have e : (10 : Int) ^ (pD l).length = ((10 ^ (pD l).length : Nat) : Int) := by simp
  unfold pF pN
  rw [e, Nat.pow_add, Int.natCast_mul]
  have h3 := Int.mul_nonneg h1.1 (Int.le_of_lt hp)
  have h4 := Int.mul_le_mul_of_nonneg_right (show val (pA l) + 1 ≤ ((10 ^ (pA l).length : Nat) : Int) by omega) (Int.le_of_lt hp)
  rw [Int.add_mul] at h4
  omega
theorem pow13 {k : Nat} (h : k ≤ 13) : 10 ^ k ≤ 10 ^ 13 := Nat.pow_le_pow_right (by decide) h
theorem S4_small {x : Str} {f b c : Int} (s : S4 x f b c) (h : pN x.cps.toList ≤ 13) : 0 ≤ f ∧ f.natAbs < 10 ^ 13 ∧ figs f.natAbs ≤ 13 ∧ (0 - f).natAbs < 10 ^ 13 ∧ figs (0 - f).natAbs ≤ 13 := by
  have h1 := pF_bound h
  have h2 := pow13 h
  rw [s.1]
  have h3 : (pF x.cps.toList).natAbs < 10 ^ 13 := by omega
  have h4 : (0 - pF x.cps.toList).natAbs = (pF x.cps.toList).natAbs := by omega
  rw [h4]
  have h5 := figs_bound (by decide) h3
  exact ⟨h1.1, h3, h5, h3, h5⟩
theorem S3_small {x : Str} {a b c : Int} (s : S3 x a b c) (h : pN x.cps.toList ≤ 13) : 0 ≤ a ∧ a < 2 ^ 64 ∧ 0 ≤ b ∧ b ≤ 13 := by
  have h1 := val_bound (pA x.cps.toList) (digs_all _)
  have h2 := pow13 (show (pA x.cps.toList).length ≤ 13 by unfold pN at h; omega)
  obtain ⟨e1, e2, e3⟩ := s
  unfold pN at h
  omega
theorem s4pos {x : Str} {n f b' c' c : Int} (h : (0 < n → S4 x f b' c') ∧ (¬ 0 < n → S4 x f b' c)) (h0 : 0 < n) : S4 x f b' c' := h.1 h0
theorem s4neg {x : Str} {n f b' c' c : Int} (h : (0 < n → S4 x f b' c') ∧ (¬ 0 < n → S4 x f b' c)) (h0 : ¬ 0 < n) : S4 x f b' c := h.2 h0
theorem news_sub {h₀ h : Heap} {L : Addr} {big small : List (Addr × Obj)} (N : News h₀ L h big) (hs : ∀ p ∈ small, p ∈ big) : News h₀ L h small := fun p hp => N p (hs p hp)
theorem sub_refl {a : List (Addr × Obj)} : ∀ p ∈ a, p ∈ a := fun _ h => h
theorem sub_tail {a b : List (Addr × Obj)} {x : Addr × Obj} (h : ∀ p ∈ a, p ∈ b) : ∀ p ∈ a, p ∈ x :: b := fun p hp => .tail _ (h p hp)
theorem sub_cons {a b : List (Addr × Obj)} {x : Addr × Obj} (h : ∀ p ∈ a, p ∈ b) : ∀ p ∈ x :: a, p ∈ x :: b := fun p hp => by
  rcases List.mem_cons.mp hp with rfl | hp
  · exact .head _
  · exact .tail _ (h p hp)
theorem pN_nz {x : Str} {a b c f b' c' : Int} (s3 : S3 x a b c) (s4 : S4 x f b' c') (h : b + b' ≠ 0) : pN x.cps.toList ≠ 0 := by
  have := pN_zero s3 s4
  omega
theorem pN_z {x : Str} {a b c f b' c' : Int} (s3 : S3 x a b c) (s4 : S4 x f b' c') (h : b + b' = 0) : pN x.cps.toList = 0 := by
  have := pN_zero s3 s4
  omega
theorem s5at {x : Str} {f b c e g : Int} (s : S4 x f b c) (he : e = (expo (from' x c)).1) (hg : g = c + (expo (from' x c)).2) : g = (pAt x.cps.toList : Nat) := (s5 s he hg).2
theorem finN {x : Str} {j f b c e g : Int} {d : Nat} {r : Option (Int × Int)} (h : dec (0 - f) (e - b) d = r) (s1 : S1 x j) (s : S4 x f b c) (he : e = (expo (from' x c)).1) (hg : g = c + (expo (from' x c)).2)
    (hm : (Txt.slice x (some j) (some (j + 1)) == Str.ofString "-") = true) : pR x.cps.toList d = r ∧ g = (pAt x.cps.toList : Nat) := ⟨(s6n s1 s he hg hm d).symm.trans h, s5at s he hg⟩
theorem finP {x : Str} {j f b c e g : Int} {d : Nat} {r : Option (Int × Int)} (h : dec f (e - b) d = r) (s1 : S1 x j) (s : S4 x f b c) (he : e = (expo (from' x c)).1) (hg : g = c + (expo (from' x c)).2)
    (hm : (Txt.slice x (some j) (some (j + 1)) == Str.ofString "-") = false) : pR x.cps.toList d = r ∧ g = (pAt x.cps.toList : Nat) := ⟨(s6p s1 s he hg hm d).symm.trans h, s5at s he hg⟩
end Mine
namespace Mine
theorem le_figs {c : Int} {a d : Int} (h : 1 ≤ d) (e : a = (figs c.natAbs : Nat)) : a - d ≤ (figs (c.natAbs : Int).toNat : Nat) := by rw [Int.toNat_natCast]; omega
set_option maxRecDepth 100000 in
set_option maxHeartbeats 8000000 in
theorem made_tell (w : World) (c e d : Int) (tc te td : Tok) (hc : c.natAbs < 10 ^ 13) (hf : figs c.natAbs ≤ 13) (h1 : 1 ≤ d) (news : List (Addr × Obj)) :
    TellX w 8 58 [.int c tc, .int e te, .int d td] news (fun v news' => ∃ l x y t1 t2, (v = .ref l ∧ news' = (l, { cls := .type "tuple", data := .seq #[.int x t1, .int y t2] }) :: news) ∧ AllLt l news ∧ dec c e d.toNat = some (x, y)) (dec c e d.toNat = none) := by
  unfold TellX
  intro loose mean mg mb dp un gd cn cs a ccd cl outer A₀ base h₀ L m s Q E B F X N T hk hd hu hret hexc
  refine wpAny_call ?_
  k_dflt cell_enter
  k_with_none
  k_with "MINE to while" => (repeat' ((fail_if_success (with_reducible show wpAny _ _ (exec (Stmt.While _ _ _ _) _) _ _ _)); walk1))
  k_with "call ref" => (k_here; (with_reducible show wpAny _ _ (call (Value.ref 44) [Value.int _ _]) _ _ _); k_dflt (refine' Tell.use (figs_tell _ _ _ ?p1 _) ?k1 ?k2 ?k3 ?k4 ?k5 ?kK ?kd ?ku ?_; (case k1 => k_asm); (case k2 => k_asm); (case k3 => k_asm); (case k4 => k_asm); (case k5 => k_asm); (case kK => exact rfl); (case p1 => omega); (case kd => ktr_room); (case ku => ktr_units)); intro v9 news9 h9 tk9 hR9 F9 N9; obtain ⟨a9, t9, ⟨hv9, hn9⟩, e9⟩ := hR9; subst hv9 hn9; (try rw [Int.toNat_natCast] at e9); (try dsimp only))
  k_with "call ref" => (k_here; (with_reducible show wpAny _ _ (call (Value.ref 51) [Value.int _ _, Value.int _ _]) _ _ _); k_dflt (refine' Tell.use (round_tell _ _ _ _ _ ?p1 ?p2 ?p3 ?p4 _) ?k1 ?k2 ?k3 ?k4 ?k5 ?kK ?kd ?ku ?_; (case k1 => k_asm); (case k2 => k_asm); (case k3 => k_asm); (case k4 => k_asm); (case k5 => k_asm); (case kK => exact rfl); (case p1 => omega); (case p2 => omega); (case p3 => exact le_figs (by omega) (by assumption)); (case p4 => omega); (case kd => ktr_room); (case ku => ktr_units)); intro v9 news9 h9 tk9 hR9 F9 N9; obtain ⟨a9, t9, ⟨hv9, hn9⟩, e9⟩ := hR9; subst hv9 hn9; (try rw [Int.toNat_natCast] at e9); (try dsimp only))
  k_with "call builtin:abs" => (k_here; (with_reducible refine abs_tell ?_); intro t8 k8; (try dsimp only))
  k_with "exec Raise some none" => (k_here; k_dflt (refine' raise_OV ?k1 ?k2 ?k3 ?k4 ?k5 ?kK ?kx ?kd ?ku ?_; (case k1 => k_asm); (case k2 => k_asm); (case k3 => k_asm); (case k4 => k_asm); (case k5 => k_asm); (case kK => exact rfl); (case kx => exact rfl); (case kd => ktr_room); (case ku => ktr_units)); intro e8 h8 tk8 vs8 sl8 dct8 tc8 F8 N8 hne8 hv8 ha8 hc8; (try dsimp only))
  k_with "leaving ref" => (k_here; k_dflt (refine' leave_firstC (by assumption) (by assumption) (by assumption) (by assumption) (by assumption) (by assumption) (by assumption) rfl rfl ?_); intro h7 R7 U7; (try dsimp only))
  repeat' ((fail_if_success (with_reducible show wpAny _ _ (exec (Stmt.If _ _ _ _) _) _ _ _)); walk1)
  rename Fr _ _ _ _ => F1
  rename News _ _ _ _ => N1
  refine join_execN (ι := Int × Tok × Int × Tok) F1 N1 (fun i' m' y => if y = Str.ofString "coefficient" then some (.int c tc) else if y = Str.ofString "size" then some (.int i'.1 i'.2.1) else if y = Str.ofString "exponent" then some (.int i'.2.2.1 i'.2.2.2) else m' y) (fun i' => (i'.1 = 0 → dec c e d.toNat = some (0, 0)) ∧ (i'.1 ≠ 0 → 0 < i'.1 ∧ DropInv (sizeOf' c d.toNat) (e + more c d.toNat) i'.1 i'.2.2.1)) ?_ ?_
  · k_steps
    all_goals first
      | refine Joined.intro (_, _, _, _) (Fr.sees [(Str.ofString "coefficient", _), (Str.ofString "size", _), (Str.ofString "exponent", _)] (by with_reducible assumption) (by repeat (first | exact trivial | refine And.intro rfl ?_))) (by first | with_reducible assumption | exact drop0 (by with_reducible assumption)) ⟨fun z => made_zeroA h1 (by assumption) (by assumption) (by assumption) z, fun z => made_startA h1 (by assumption) (by assumption) (by assumption) z⟩
      | refine Joined.intro (_, _, _, _) (Fr.sees [(Str.ofString "coefficient", _), (Str.ofString "size", _), (Str.ofString "exponent", _)] (by with_reducible assumption) (by repeat (first | exact trivial | refine And.intro rfl ?_))) (by with_reducible assumption) ⟨fun z => made_zeroB h1 (by assumption) (by assumption) z, fun z => made_startB h1 (by assumption) (by assumption) z⟩
  clear F1 N1
  rintro ⟨fq, tf, cq, tc'⟩ mC hC tkC FC NC ⟨sC1, sC2⟩
  dsimp only at FC sC1 sC2 ⊢
  k_with "state" => ((try dsimp only); first | exact sC2 (by assumption) | exact drop_turn' (by assumption) (by assumption))
  k_with "measure" => exact drop_measure (by assumption)
  repeat' ((fail_if_success (with_reducible show wpAny _ _ (exec (Stmt.While _ _ _ _) _) _ _ _)); walk1)
  all_goals try (k_while (fun _ size ex => 0 < size ∧ DropInv (sizeOf' c d.toNat) (e + more c d.toNat) size ex) (fun _ size ex => size.toNat) "size" "exponent")
  k_steps
  all_goals first
    | exact hret _ _ _ _ ⟨_, _, _, _, _, ⟨rfl, rfl⟩, allLt_of (by assumption), by first | exact sC1 (by assumption) | exact made_low (by assumption) (by assumption) (by assumption) (by assumption) (by assumption) | exact made_midN (by assumption) (by assumption) (by assumption) (by assumption) (by assumption) (by assumption) | exact made_midP (by assumption) (by assumption) (by assumption) (by assumption) (by assumption) (by assumption)⟩ (by assumption) (by assumption)
    | exact hexc (made_ov (by assumption) (by assumption) (by assumption) (by assumption)) _ _ _ _ _ (by assumption) (by assumption) (by assumption)
    | exact hexc (made_ov (by assumption) (by assumption) (by assumption) (by assumption)) _ _ _ _ _ (by assumption) (RaisedC.mono (by assumption) (fun _ hp => .tail _ hp)) (by assumption)
end Mine
namespace Mine
set_option maxRecDepth 100000 in
set_option maxHeartbeats 8000000 in
theorem told_tell (w : World) (c e d : Int) (tc te td : Tok) (hc : c.natAbs < 10 ^ 13) (hf : figs c.natAbs ≤ 13) (h1 : 1 ≤ d) (news : List (Addr × Obj)) :
    TellX w 12 87 [.int c tc, .int e te, .int d td] news (fun v news' => (∃ l x y t1 t2, (v = .ref l ∧ news' = (l, { cls := .type "tuple", data := .seq #[.int x t1, .int y t2] }) :: news) ∧ AllLt l news ∧ dec c e d.toNat = some (x, y)) ∨
      ((v = .ref 59 ∧ news' = news) ∧ dec c e d.toNat = some (0, 0))) (dec c e d.toNat = none) := by
  unfold TellX
  intro loose mean mg mb dp un gd cn cs a ccd cl outer A₀ base h₀ L m s Q E B F X N T hk hd hu hret hexc
  refine wpAny_call ?_
  k_dflt cell_enter
  k_with_none
  k_with "call ref" => (k_here; (with_reducible show wpAny _ _ (call (Value.ref 44) [Value.int _ _]) _ _ _); k_dflt (refine' Tell.use (figs_tell _ _ _ ?p1 _) ?k1 ?k2 ?k3 ?k4 ?k5 ?kK ?kd ?ku ?_; (case k1 => k_asm); (case k2 => k_asm); (case k3 => k_asm); (case k4 => k_asm); (case k5 => k_asm); (case kK => exact rfl); (case p1 => omega); (case kd => ktr_room); (case ku => ktr_units)); intro v9 news9 h9 tk9 hR9 F9 N9; obtain ⟨a9, t9, ⟨hv9, hn9⟩, e9⟩ := hR9; subst hv9 hn9; (try rw [Int.toNat_natCast] at e9); (try dsimp only))
  k_with "call builtin:abs" => (k_here; (with_reducible refine abs_tell ?_); intro t8 k8; (try dsimp only))
  k_with "exec Raise some none" => (k_here; k_dflt (refine' raise_OV ?k1 ?k2 ?k3 ?k4 ?k5 ?kK ?kx ?kd ?ku ?_; (case k1 => k_asm); (case k2 => k_asm); (case k3 => k_asm); (case k4 => k_asm); (case k5 => k_asm); (case kK => exact rfl); (case kx => exact rfl); (case kd => ktr_room); (case ku => ktr_units)); intro e8 h8 tk8 vs8 sl8 dct8 tc8 F8 N8 hne8 hv8 ha8 hc8; (try dsimp only))
  k_with "leaving ref" => (k_here; k_dflt (refine' leave_firstC (by assumption) (by assumption) (by assumption) (by assumption) (by assumption) (by assumption) (by assumption) rfl rfl ?_); intro h7 R7 U7; (try dsimp only))
  k_with "leaving ref" => (k_here; k_dflt (refine' leave_nextC (by assumption) (by assumption) (by assumption) rfl rfl ?_); intro h7 R7 U7; (try dsimp only))
  k_with "call ref" => (k_here; (with_reducible show wpAny _ _ (call (Value.ref 58) [Value.int _ _, Value.int _ _, Value.int _ _]) _ _ _); k_dflt (refine' TellX.use (made_tell _ _ _ _ _ _ _ ?p1 ?p2 ?p3 _) ?k1 ?k2 ?k3 ?k4 ?k5 ?kK ?kd ?ku ?_ ?_; (case k1 => k_asm); (case k2 => k_asm); (case k3 => k_asm); (case k4 => k_asm); (case k5 => k_asm); (case kK => exact rfl); (case p1 => assumption); (case p2 => assumption); (case p3 => assumption); (case kd => ktr_room); (case ku => ktr_units)); (intro v9 news9 h9 tk9 hR9 F9 N9; obtain ⟨l9, x9, y9, t9, t9', ⟨hv9, hn9⟩, l9', e9⟩ := hR9; subst hv9 hn9; (try dsimp only)); rotate_left; (intro hP9 e8 h8 tk8 g8 tc8 F8 R8 U8; (try dsimp only)); rotate_left)
  k_steps
  all_goals first
    | exact hret _ _ _ _ (Or.inr ⟨⟨rfl, rfl⟩, by first | exact (by subst c; exact dec_zero _ _) | exact told_low h1 (by assumption) (by assumption) (by assumption)⟩) (by assumption) (by assumption)
    | exact hexc (told_high h1 (by assumption) (by assumption) (by assumption)) _ _ _ _ _ (by assumption) (by assumption) (by assumption)
    | exact hexc (by assumption) _ _ _ _ _ (by assumption) (by assumption) (by assumption)
    | exact hret _ _ _ _ (Or.inl ⟨_, _, _, _, _, ⟨rfl, rfl⟩, by assumption, by assumption⟩) (by assumption) (by assumption)
end Mine
namespace Mine
set_option maxRecDepth 100000 in
set_option maxHeartbeats 8000000 in
theorem expo_tell (w : World) (x : Str) (t : Tok) (i : Int) (ti : Tok) (h0 : 0 ≤ i) (h1 : i ≤ x.length) (hx : x.length ≤ 100) (news : List (Addr × Obj)) :
    Tell w 5 73 [.str x t, .int i ti] news (fun v news' => ∃ l a b t1 t2, (v = .ref l ∧ news' = (l, { cls := .type "tuple", data := .seq #[.int a t1, .int b t2] }) :: news) ∧ AllLt l news ∧ a = (expo (from' x i)).1 ∧ b = i + (expo (from' x i)).2) := by
  unfold Tell
  intro prog loose mean mg mb dp un gd cn cs a ccd cl outer A₀ base h₀ L m s Q E B F X N T hk hd hu hret
  refine wpAny_call ?_
  k_dflt cell_enter
  k_with_none
  k_with "call ref" => (k_here; (with_reducible show wpAny _ _ (call (Value.ref 66) [Value.str _ _, Value.int _ _]) _ _ _); k_dflt (refine' Tell.use (run_tell _ _ _ _ _ ?p1 ?p2 ?p3 _) ?k1 ?k2 ?k3 ?k4 ?k5 ?kK ?kd ?ku ?_; (case k1 => k_asm); (case k2 => k_asm); (case k3 => k_asm); (case k4 => k_asm); (case k5 => k_asm); (case kK => exact rfl); (case p1 => omega); (case p2 => first | omega | exact sign_len (by omega) (by assumption)); (case p3 => omega); (case kd => ktr_room); (case ku => ktr_units)); intro v9 news9 h9 tk9 hR9 F9 N9; obtain ⟨l9, a9, b9, c9, t9, t9', t9'', ⟨hv9, hn9⟩, l9', e9, e9', e9'', e9b⟩ := hR9; subst hv9 hn9; (try dsimp only))
  repeat' ((fail_if_success (with_reducible show wpAny _ _ (exec (Stmt.Assign [PySem.Expr.Name (Str.ofString "sign") _] _ _) _) _ _ _)); walk1)
  all_goals first
    | exact hret _ _ _ _ ⟨_, _, _, _, _, ⟨rfl, rfl⟩, allLt_of (by with_reducible assumption), by first | exact expo_a (by with_reducible assumption) | exact expo_b h0 (by with_reducible assumption) (by with_reducible assumption)⟩ (by with_reducible assumption) (by with_reducible assumption)
    | skip
  rename Fr _ _ _ _ => F1
  refine join_exec (ι := Int × Tok × Tok) F1 news (fun i' m' y => if y = Str.ofString "text" then some (.str x t) else if y = Str.ofString "at" then some (.int i ti) else if y = Str.ofString "begin" then some (.int (i + 1) i'.2.2) else if y = Str.ofString "sign" then some (.int i'.1 i'.2.1) else m' y) (fun i' => ((Txt.slice x (some (i + 1)) (some (i + 1 + 1)) == Str.ofString "-") = true → i'.1 = -1) ∧ ((Txt.slice x (some (i + 1)) (some (i + 1 + 1)) == Str.ofString "-") = false → i'.1 = 1)) ?_ ?_
  · k_steps
    all_goals first
      | exact Joined.intro (_, _, _) (Fr.sees [(Str.ofString "text", _), (Str.ofString "at", _), (Str.ofString "begin", _), (Str.ofString "sign", _)] (by with_reducible assumption) (by repeat (first | exact trivial | refine And.intro rfl ?_))) (by with_reducible assumption) ⟨fun _ => rfl, fun q => absurd q (by rw [‹(Txt.slice x (some (i + 1)) (some (i + 1 + 1)) == Str.ofString "-") = true›]; decide)⟩
      | exact Joined.intro (_, _, _) (Fr.sees [(Str.ofString "text", _), (Str.ofString "at", _), (Str.ofString "begin", _), (Str.ofString "sign", _)] (by with_reducible assumption) (by repeat (first | exact trivial | refine And.intro rfl ?_))) (by with_reducible assumption) ⟨fun q => absurd q (by rw [‹(Txt.slice x (some (i + 1)) (some (i + 1 + 1)) == Str.ofString "-") = false›]; decide), fun _ => rfl⟩
  clear F1
  rintro ⟨sg, tsg, tbg⟩ mA hA tkA FA NA ⟨sA1, sA2⟩
  dsimp only at FA sA1 sA2 ⊢
  have sb : -1 ≤ sg ∧ sg ≤ 1 := by
    cases q : (Txt.slice x (some (i + 1)) (some (i + 1 + 1)) == Str.ofString "-") with
    | true => have := sA1 q; omega
    | false => have := sA2 q; omega
  repeat' ((fail_if_success (with_reducible show wpAny _ _ (exec (Stmt.If _ _ _ _) _) _ _ _)); walk1)
  rename Fr _ _ _ _ => F1
  refine join_exec (ι := Int × Tok) F1 news (fun i' m' y => if y = Str.ofString "text" then some (.str x t) else if y = Str.ofString "at" then some (.int i ti) else if y = Str.ofString "begin" then some (.int i'.1 i'.2) else if y = Str.ofString "sign" then some (.int sg tsg) else m' y) (fun i' => (0 ≤ i'.1 ∧ i'.1 ≤ x.length) ∧ ∀ a b c : Int, a = val (digs (from' x i'.1)) → b = ((digs (from' x i'.1)).length : Nat) → c = i'.1 + ((digs (from' x i'.1)).length : Nat) →
      (b = 0 → 0 = (expo (from' x i)).1 ∧ i = i + (expo (from' x i)).2) ∧ (b ≠ 0 → (sg * if 9999 < a then 9999 else a) = (expo (from' x i)).1 ∧ c = i + (expo (from' x i)).2)) ?_ ?_
  · k_steps
    · by_cases q : (Txt.slice x (some (i + 1)) (some (i + 1 + 1)) == Str.ofString "-") = true
      · have := sA1 q
        subst this
        refine Joined.intro (_, _) (Fr.sees [(Str.ofString "text", _), (Str.ofString "at", _), (Str.ofString "begin", _), (Str.ofString "sign", _)] (by with_reducible assumption) (by repeat (first | exact trivial | refine And.intro rfl ?_))) (by first | with_reducible assumption | exact drop0 (by with_reducible assumption)) ⟨⟨by dsimp only; omega, sign_len (by omega) (by with_reducible assumption)⟩, fun a b c ea eb ec => expo_minus h0 (by with_reducible assumption) (by with_reducible assumption) q ea eb ec⟩
      · have q' : (Txt.slice x (some (i + 1)) (some (i + 1 + 1)) == Str.ofString "-") = false := by simpa using q
        have := sA2 q'
        subst this
        refine Joined.intro (_, _) (Fr.sees [(Str.ofString "text", _), (Str.ofString "at", _), (Str.ofString "begin", _), (Str.ofString "sign", _)] (by with_reducible assumption) (by repeat (first | exact trivial | refine And.intro rfl ?_))) (by first | with_reducible assumption | exact drop0 (by with_reducible assumption)) ⟨⟨by dsimp only; omega, sign_len (by omega) (by with_reducible assumption)⟩, fun a b c ea eb ec => expo_plus h0 (by with_reducible assumption) (by with_reducible assumption) q' (by with_reducible assumption) ea eb ec⟩
    · by_cases q : (Txt.slice x (some (i + 1)) (some (i + 1 + 1)) == Str.ofString "-") = true
      · exfalso; exact sign_absurd q (by with_reducible assumption) (by omega)
      · have q' : (Txt.slice x (some (i + 1)) (some (i + 1 + 1)) == Str.ofString "-") = false := by simpa using q
        have := sA2 q'
        subst this
        refine Joined.intro (_, _) (Fr.sees [(Str.ofString "text", _), (Str.ofString "at", _), (Str.ofString "begin", _), (Str.ofString "sign", _)] (by with_reducible assumption) (by repeat (first | exact trivial | refine And.intro rfl ?_))) (by first | with_reducible assumption | exact drop0 (by with_reducible assumption)) ⟨⟨by dsimp only; omega, by dsimp only; omega⟩, fun a b c ea eb ec => expo_none h0 (by with_reducible assumption) (by with_reducible assumption) (by with_reducible assumption) ea eb ec⟩
  clear F1
  rintro ⟨bg, tb'⟩ mB hB tkB FB NB ⟨⟨bB1, bB2⟩, sB⟩
  dsimp only at FB bB1 bB2 sB ⊢
  k_steps
  all_goals exact hret _ _ _ _ ⟨_, _, _, _, _, ⟨rfl, rfl⟩, And.right (by with_reducible assumption), by first
      | exact (sB _ _ _ (by with_reducible assumption) (by with_reducible assumption) (by with_reducible assumption)).1 (by with_reducible assumption)
      | exact (sB _ _ _ (by with_reducible assumption) (by with_reducible assumption) (by with_reducible assumption)).2 (by with_reducible assumption)⟩ (by with_reducible assumption) (drop1 (by with_reducible assumption))
end Mine
namespace Mine
noncomputable def RText (x : Str) (d : Int) (news : List (Addr × Obj)) (v : Value) (news' : List (Addr × Obj)) : Prop :=
  (pN x.cps.toList = 0 ∧ v = .none ∧ news' = news) ∨
      (pN x.cps.toList ≠ 0 ∧ ∃ (q : Addr) (y1 y2 g : Int) (tg : Tok), pR x.cps.toList d.toNat = some (y1, y2) ∧ v = .ref q ∧ AllLt q news ∧ g = ((pAt x.cps.toList : Nat) : Int) ∧
        ((∃ q1 t1 t2, q1 < q ∧ AllLt q1 news ∧ news' = (q, { cls := .type "tuple", data := .seq #[.ref q1, .int g tg] }) :: (q1, { cls := .type "tuple", data := .seq #[.int y1 t1, .int y2 t2] }) :: news) ∨
         (y1 = 0 ∧ y2 = 0 ∧ news' = (q, { cls := .type "tuple", data := .seq #[.ref 59, .int g tg] }) :: news)))
theorem ret_none {x : Str} {d : Int} {news : List (Addr × Obj)} (z : pN x.cps.toList = 0) : RText x d news .none news := Or.inl ⟨z, rfl, rfl⟩
theorem ret_tuple {x : Str} {d : Int} {news : List (Addr × Obj)} {q q1 : Addr} {y1 y2 g : Int} {tg t1 t2 : Tok} (z : pN x.cps.toList ≠ 0) (y : pR x.cps.toList d.toNat = some (y1, y2) ∧ g = ((pAt x.cps.toList : Nat) : Int))
    (h1 : AllLt q news) (h2 : q1 < q) (h3 : AllLt q1 news) : RText x d news (.ref q) ((q, { cls := .type "tuple", data := .seq #[.ref q1, .int g tg] }) :: (q1, { cls := .type "tuple", data := .seq #[.int y1 t1, .int y2 t2] }) :: news) :=
  Or.inr ⟨z, q, y1, y2, g, tg, y.1, rfl, h1, y.2, Or.inl ⟨q1, t1, t2, h2, h3, rfl⟩⟩
theorem ret_zero {x : Str} {d : Int} {news : List (Addr × Obj)} {q : Addr} {g : Int} {tg : Tok} (z : pN x.cps.toList ≠ 0) (y : pR x.cps.toList d.toNat = some (0, 0) ∧ g = ((pAt x.cps.toList : Nat) : Int))
    (h1 : AllLt q news) : RText x d news (.ref q) ((q, { cls := .type "tuple", data := .seq #[.ref 59, .int g tg] }) :: news) :=
  Or.inr ⟨z, q, 0, 0, g, tg, y.1, rfl, h1, y.2, Or.inr ⟨rfl, rfl, rfl⟩⟩
end Mine
namespace Mine
theorem mul_first {M : Program} {w : World} {A : Around} {E : Value → Shared → Prop} {s : Shared} {a b : Int} {t u : Tok} {Q : Value → Shared → Prop} (h1 : 0 ≤ a ∧ a < 2 ^ 64)
    (h : Q (.int (a * b) s.toks) { s with toks := s.toks + 1 }) : wpAny (model M w) A (binaryOp .Mult (.int a t) (.int b u)) Q E s :=
  mul_int h (IntMulOk.of_left (intBits_le_64 (by omega) (by omega)))
set_option maxRecDepth 100000 in
set_option maxHeartbeats 8000000 in
theorem text_tell (w : World) (x : Str) (t : Tok) (d : Int) (td : Tok) (hd1 : 1 ≤ d) (hx : x.length ≤ 100) (hN : pN x.cps.toList ≤ 13) (news : List (Addr × Obj)) :
    TellX w 20 80 [.str x t, .int d td] news (RText x d news)
      (pN x.cps.toList ≠ 0 ∧ pR x.cps.toList d.toNat = none) := by
  unfold TellX
  intro loose mean mg mb dp un gd cn cs a ccd cl outer A₀ base h₀ L m s Q E B F X N T hk hd hu hret hexc
  refine wpAny_call ?_
  k_dflt cell_enter
  k_with_none
  k_with "state" => ((try dsimp only); first | exact ⟨Int.le_refl _, by omega, blank_start x⟩ | exact ⟨by omega, by omega, blank_turn (by with_reducible assumption) (by with_reducible assumption) (by with_reducible assumption)⟩)
  k_with "exec While BoolOp cons nil" => k_while (fun _ at' => 0 ≤ at' ∧ at' ≤ x.length ∧ BlankInv x at') (fun _ at' => (x.length - at').toNat) "at"
  k_with "call ref" => (k_here; (with_reducible show wpAny _ _ (call (Value.ref 66) [Value.str _ _, Value.int _ _]) _ _ _); k_dflt (refine' Tell.use (run_tell _ _ _ _ _ ?p1 ?p2 ?p3 _) ?k1 ?k2 ?k3 ?k4 ?k5 ?kK ?kd ?ku ?_; (case k1 => k_asm); (case k2 => k_asm); (case k3 => k_asm); (case k4 => k_asm); (case k5 => k_asm); (case kK => exact rfl); (case p1 => omega); (case p2 => first | omega | exact sign_len (by omega) (by with_reducible assumption) | exact (s4_dot (by with_reducible assumption) (by with_reducible assumption)).2.2.2); (case p3 => omega); (case kd => ktr_room); (case ku => ktr_units)); intro v9 news9 h9 tk9 hR9 F9 N9; obtain ⟨l9, a9, b9, c9, t9, t9', t9'', ⟨hv9, hn9⟩, l9', e9, e9', e9'', e9b⟩ := hR9; subst hv9 hn9; (try simp only [AllLt, and_true] at l9'); (try (have s3' := s3 (by with_reducible assumption) e9 e9' e9'')); (try (have s4' := s4y (by with_reducible assumption) (by with_reducible assumption) e9 e9' e9'')); (try dsimp only))
  k_with "call ref" => (k_here; (with_reducible show wpAny _ _ (call (Value.ref 73) [Value.str _ _, Value.int _ _]) _ _ _); k_dflt (refine' Tell.use (expo_tell _ _ _ _ _ ?p1 ?p2 ?p3 _) ?k1 ?k2 ?k3 ?k4 ?k5 ?kK ?kd ?ku ?_; (case k1 => k_asm); (case k2 => k_asm); (case k3 => k_asm); (case k4 => k_asm); (case k5 => k_asm); (case kK => exact rfl); (case p1 => omega); (case p2 => omega); (case p3 => omega); (case kd => ktr_room); (case ku => ktr_units)); intro v9 news9 h9 tk9 hR9 F9 N9; obtain ⟨l9, a9, b9, t9, t9', ⟨hv9, hn9⟩, l9', e9, e9'⟩ := hR9; subst hv9 hn9; (try simp only [AllLt, and_true] at l9'); (try dsimp only))
  k_with "call ref" => (k_here; (with_reducible show wpAny _ _ (call (Value.ref 87) [Value.int _ _, Value.int _ _, Value.int _ _]) _ _ _); k_dflt (refine' TellX.use (told_tell _ _ _ _ _ _ _ ?p1 ?p2 ?p3 _) ?k1 ?k2 ?k3 ?k4 ?k5 ?kK ?kd ?ku ?_ ?_; (case k1 => k_asm); (case k2 => k_asm); (case k3 => k_asm); (case k4 => k_asm); (case k5 => k_asm); (case kK => exact rfl); (case p1 => first | exact (S4_small (by with_reducible assumption) (by with_reducible assumption)).2.1 | exact (S4_small (by with_reducible assumption) (by with_reducible assumption)).2.2.2.1); (case p2 => first | exact (S4_small (by with_reducible assumption) (by with_reducible assumption)).2.2.1 | exact (S4_small (by with_reducible assumption) (by with_reducible assumption)).2.2.2.2); (case p3 => assumption); (case kd => ktr_room); (case ku => ktr_units)); rotate_left; (intro hP9 e8 h8 tk8 g8 tc8 F8 R8 U8; (try dsimp only)); rotate_left; (intro v9 news9 h9 tk9 hR9 F9 N9; rcases hR9 with ⟨l9, x9, y9, t9, t9', ⟨hv9, hn9⟩, l9', e9⟩ | ⟨⟨hv9, hn9⟩, e9⟩ <;> subst hv9 hn9 <;> (try simp only [AllLt, and_true] at l9') <;> (try dsimp only)))
  k_with "leaving ref" => (k_here; k_dflt (refine' leave_nextC (by assumption) (by assumption) (by assumption) rfl rfl ?_); intro h7 R7 U7; (try dsimp only))
  k_with "binaryOp Mult int int" => (k_here; (with_reducible refine mul_first ?hm ?_); (case hm => exact ⟨(S3_small (by with_reducible assumption) (by with_reducible assumption)).1, (S3_small (by with_reducible assumption) (by with_reducible assumption)).2.1⟩); (try dsimp only))
  repeat' ((fail_if_success (with_reducible show wpAny _ _ (exec (Stmt.While _ _ _ _) _) _ _ _)); walk1)
  rename Fr _ _ _ _ => F1
  refine join_exec (ι := Int × Tok) F1 news (fun i m' y => if y = Str.ofString "text" then some (.str x t) else if y = Str.ofString "digits" then some (.int d td) else if y = Str.ofString "at" then some (.int i.1 i.2) else m' y) (fun i => 0 ≤ i.1 ∧ i.1 ≤ x.length ∧ S1 x i.1) ?_ ?_
  · k_steps
    all_goals refine Joined.intro (_, _) (Fr.sees [(Str.ofString "text", _), (Str.ofString "digits", _), (Str.ofString "at", _)] (by with_reducible assumption) (by repeat (first | exact trivial | refine And.intro rfl ?_))) (by with_reducible assumption) ⟨?_, ?_, blank_exit (by with_reducible assumption) (by first | exact Or.inl (by with_reducible assumption) | exact Or.inr (by with_reducible assumption))⟩
    all_goals (dsimp only; omega)
  clear F1
  rintro ⟨j, tj⟩ mA hA tkA FA NA ⟨bA1, bA2, sA⟩
  dsimp only at FA bA1 bA2 sA ⊢
  repeat' ((fail_if_success (with_reducible show wpAny _ _ (exec (Stmt.If _ _ _ _) _) _ _ _)); walk1)
  rename Fr _ _ _ _ => F1
  refine join_exec (ι := Int × Tok) F1 news (fun i m' y => if y = Str.ofString "text" then some (.str x t) else if y = Str.ofString "digits" then some (.int d td) else if y = Str.ofString "is_below" then some (.bool (Txt.slice x (some j) (some (j + 1)) == Str.ofString "-")) else if y = Str.ofString "at" then some (.int i.1 i.2) else m' y) (fun i => 0 ≤ i.1 ∧ i.1 ≤ x.length ∧ S2 x i.1) ?_ ?_
  · k_steps
    all_goals first
      | refine Joined.intro (_, _) (Fr.sees [(Str.ofString "text", _), (Str.ofString "digits", _), (Str.ofString "is_below", _), (Str.ofString "at", _)] (by with_reducible assumption) (by repeat (first | exact trivial | refine And.intro rfl ?_))) (news_sub (by with_reducible assumption) (by repeat (first | exact sub_refl | refine sub_tail ?_))) ⟨?_, ?_, s2p sA (by with_reducible assumption)⟩
      | refine Joined.intro (_, _) (Fr.sees [(Str.ofString "text", _), (Str.ofString "digits", _), (Str.ofString "is_below", _), (Str.ofString "at", _)] (by with_reducible assumption) (by repeat (first | exact trivial | refine And.intro rfl ?_))) (news_sub (by with_reducible assumption) (by repeat (first | exact sub_refl | refine sub_tail ?_))) ⟨?_, ?_, s2n sA (by with_reducible assumption)⟩
    all_goals (dsimp only; first | omega | exact sign_len bA1 (by with_reducible assumption))
  clear F1 bA1 bA2
  rintro ⟨k, tk⟩ mB hB tkB FB NB ⟨bB1, bB2, sB⟩
  dsimp only at FB bB1 bB2 sB ⊢
  repeat' ((fail_if_success (with_reducible show wpAny _ _ (exec (Stmt.If _ _ _ _) _) _ _ _)); walk1)
  rename Fr _ _ _ _ => F1
  refine join_exec (ι := Int × Tok × Int × Tok × Int × Tok) F1 news (fun i m' y => if y = Str.ofString "text" then some (.str x t) else if y = Str.ofString "digits" then some (.int d td) else if y = Str.ofString "is_below" then some (.bool (Txt.slice x (some j) (some (j + 1)) == Str.ofString "-")) else if y = Str.ofString "found" then some (.int i.1 i.2.1) else if y = Str.ofString "ahead" then some (.int b9 t9') else if y = Str.ofString "behind" then some (.int i.2.2.1 i.2.2.2.1) else if y = Str.ofString "at" then some (.int i.2.2.2.2.1 i.2.2.2.2.2) else m' y) (fun i => S4 x i.1 i.2.2.1 i.2.2.2.2.1 ∧ 0 ≤ i.2.2.1 ∧ i.2.2.1 ≤ 100 ∧ 0 ≤ i.2.2.2.2.1 ∧ i.2.2.2.2.1 ≤ x.length) ?_ ?_
  · k_steps
    all_goals first
      | refine Joined.intro (_, _, _, _, _, _) (Fr.sees [(Str.ofString "text", _), (Str.ofString "digits", _), (Str.ofString "is_below", _), (Str.ofString "found", _), (Str.ofString "ahead", _), (Str.ofString "behind", _), (Str.ofString "at", _)] (by with_reducible assumption) (by repeat (first | exact trivial | refine And.intro rfl ?_))) (news_sub (by with_reducible assumption) (by repeat (first | exact sub_refl | refine sub_tail ?_))) ⟨s4pos (by with_reducible assumption) (by with_reducible assumption), ?_, ?_, ?_, ?_⟩
      | refine Joined.intro (_, _, _, _, _, _) (Fr.sees [(Str.ofString "text", _), (Str.ofString "digits", _), (Str.ofString "is_below", _), (Str.ofString "found", _), (Str.ofString "ahead", _), (Str.ofString "behind", _), (Str.ofString "at", _)] (by with_reducible assumption) (by repeat (first | exact trivial | refine And.intro rfl ?_))) (news_sub (by with_reducible assumption) (by repeat (first | exact sub_refl | refine sub_tail ?_))) ⟨s4neg (by with_reducible assumption) (by with_reducible assumption), ?_, ?_, ?_, ?_⟩
      | refine Joined.intro (_, _, _, _, _, _) (Fr.sees [(Str.ofString "text", _), (Str.ofString "digits", _), (Str.ofString "is_below", _), (Str.ofString "found", _), (Str.ofString "ahead", _), (Str.ofString "behind", _), (Str.ofString "at", _)] (by with_reducible assumption) (by repeat (first | exact trivial | refine And.intro rfl ?_))) (news_sub (by with_reducible assumption) (by repeat (first | exact sub_refl | refine sub_tail ?_))) ⟨s4n (by with_reducible assumption) (by with_reducible assumption), ?_, ?_, ?_, ?_⟩
    all_goals (dsimp only; omega)
  clear F1
  rintro ⟨fq, tf, bq, tb, cq, tc⟩ mC hC tkC FC NC ⟨sC, bC1, bC2, bC3, bC4⟩
  dsimp only at FC sC bC1 bC2 bC3 bC4 ⊢
  k_steps
  all_goals first
    | (exfalso; omega)
    | (have z9 := pN_z (by with_reducible assumption) (by with_reducible assumption) (by with_reducible assumption); exact hret _ _ _ _ (ret_none z9) (by with_reducible assumption) (news_sub (by with_reducible assumption) (by repeat (first | exact sub_refl | refine sub_tail ?_))))
    | (have z9 := pN_z (by with_reducible assumption) (s4pos (by with_reducible assumption) (by with_reducible assumption)) (by with_reducible assumption); exact hret _ _ _ _ (ret_none z9) (by with_reducible assumption) (news_sub (by with_reducible assumption) (by repeat (first | exact sub_refl | refine sub_tail ?_))))
    | (have z9 := pN_z (by with_reducible assumption) (s4neg (by with_reducible assumption) (by with_reducible assumption)) (by with_reducible assumption); exact hret _ _ _ _ (ret_none z9) (by with_reducible assumption) (news_sub (by with_reducible assumption) (by repeat (first | exact sub_refl | refine sub_tail ?_))))
    | (have z9 := pN_z (by with_reducible assumption) (s4n (by with_reducible assumption) (by with_reducible assumption)) (by with_reducible assumption); exact hret _ _ _ _ (ret_none z9) (by with_reducible assumption) (news_sub (by with_reducible assumption) (by repeat (first | exact sub_refl | refine sub_tail ?_))))
    | (have z9 := pN_nz (by with_reducible assumption) (by with_reducible assumption) (by with_reducible assumption)
       have y9 := (by first | exact finN (by with_reducible assumption) (by with_reducible assumption) (by with_reducible assumption) (by with_reducible assumption) (by with_reducible assumption) (by with_reducible assumption) | exact finP (by with_reducible assumption) (by with_reducible assumption) (by with_reducible assumption) (by with_reducible assumption) (by with_reducible assumption) (by with_reducible assumption) : pR x.cps.toList d.toNat = none ∧ _ = _)
       exact hexc ⟨z9, y9.1⟩ _ _ _ _ _ (by with_reducible assumption) (RaisedC.mono (by with_reducible assumption) (by repeat (first | exact sub_refl | refine sub_tail ?_))) (by with_reducible assumption))
    | (have z9 := pN_nz (by with_reducible assumption) (by with_reducible assumption) (by with_reducible assumption)
       have y9 := (by first | exact finN (by with_reducible assumption) (by with_reducible assumption) (by with_reducible assumption) (by with_reducible assumption) (by with_reducible assumption) (by with_reducible assumption) | exact finP (by with_reducible assumption) (by with_reducible assumption) (by with_reducible assumption) (by with_reducible assumption) (by with_reducible assumption) (by with_reducible assumption) : pR x.cps.toList d.toNat = some (_, _) ∧ _ = _)
       first
       | (have N7 := news_sub (small := _ :: _ :: news) (by with_reducible assumption) (sub_cons (sub_cons (by repeat (first | exact sub_refl | refine sub_tail ?_))))
          refine hret _ _ _ _ ?_ (by with_reducible assumption) N7
          with_reducible refine ret_tuple z9 y9 ?_ ?_ ?_
          · first | with_reducible assumption | exact And.right (by with_reducible assumption) | exact And.right (And.right (by with_reducible assumption)) | exact And.right (And.right (And.right (by with_reducible assumption))) | exact And.right (And.right (And.right (And.right (by with_reducible assumption)))) | exact And.right (And.right (And.right (And.right (And.right (by with_reducible assumption))))) | exact And.right (And.right (And.right (And.right (And.right (And.right (by with_reducible assumption)))))) | exact And.right (And.right (And.right (And.right (And.right (And.right (And.right (by with_reducible assumption))))))) | exact And.right (And.right (And.right (And.right (And.right (And.right (And.right (And.right (by with_reducible assumption))))))))
          · exact And.left (by with_reducible assumption)
          · first | with_reducible assumption | exact And.right (by with_reducible assumption) | exact And.right (And.right (by with_reducible assumption)) | exact And.right (And.right (And.right (by with_reducible assumption))) | exact And.right (And.right (And.right (And.right (by with_reducible assumption)))) | exact And.right (And.right (And.right (And.right (And.right (by with_reducible assumption))))) | exact And.right (And.right (And.right (And.right (And.right (And.right (by with_reducible assumption)))))) | exact And.right (And.right (And.right (And.right (And.right (And.right (And.right (by with_reducible assumption))))))) | exact And.right (And.right (And.right (And.right (And.right (And.right (And.right (And.right (by with_reducible assumption)))))))))
       | (have N7 := news_sub (small := _ :: news) (by with_reducible assumption) (sub_cons (by repeat (first | exact sub_refl | refine sub_tail ?_)))
          refine hret _ _ _ _ ?_ (by with_reducible assumption) N7
          with_reducible refine ret_zero z9 y9 ?_
          first | with_reducible assumption | exact And.right (by with_reducible assumption) | exact And.right (And.right (by with_reducible assumption)) | exact And.right (And.right (And.right (by with_reducible assumption))) | exact And.right (And.right (And.right (And.right (by with_reducible assumption)))) | exact And.right (And.right (And.right (And.right (And.right (by with_reducible assumption))))) | exact And.right (And.right (And.right (And.right (And.right (And.right (by with_reducible assumption)))))) | exact And.right (And.right (And.right (And.right (And.right (And.right (And.right (by with_reducible assumption))))))) | exact And.right (And.right (And.right (And.right (And.right (And.right (And.right (And.right (by with_reducible assumption))))))))))
end Mine
namespace Mine
noncomputable abbrev bagIs (w : World) (ob : Obj) (cells : Addr) (p : Int) (tp : Tok) : Prop := Obj.IsDictOf (PySem.strKind theProg w) ob [(Str.ofString "cells", .ref cells), (Str.ofString "place", .int p tp)]
theorem fmod_in {a m : Int} (h : 1 ≤ m) : 0 ≤ a.fmod m ∧ a.fmod m < m := by
  rw [Int.fmod_eq_emod_of_nonneg _ (by omega)]
  exact ⟨Int.emod_nonneg _ (by omega), Int.emod_lt_of_pos _ (by omega)⟩
theorem bag_stored {w : World} {ob : Obj} {cells : Addr} {p p' : Int} {tp tp' : Tok} (h : Obj.IsDictOf (PySem.strKind theProg w) ob (stored [(Str.ofString "cells", .ref cells), (Str.ofString "place", .int p tp)] (Str.ofString "place") (.int p' tp'))) :
    Obj.IsDictOf (PySem.strKind theProg w) ob [(Str.ofString "cells", .ref cells), (Str.ofString "place", .int p' tp')] := h
set_option maxRecDepth 100000 in
set_option maxHeartbeats 8000000 in
theorem rat_tell (w : World) (b cells : Addr) (ob : Obj) (p : Int) (tp : Tok) (many : Int) (tm : Tok) (vs : List Value) (ns : List Int) (hn : IntsAre vs ns) (hlen : ns.length ≤ 60)
    (hob : Obj.IsDictOf (PySem.strKind theProg w) ob [(Str.ofString "cells", .ref cells), (Str.ofString "place", .int p tp)])
    (hp : 0 ≤ p) (hp2 : p ≤ 1000) (hm : 1 ≤ many) (hm2 : many ≤ 20) (news : List (Addr × Obj))
    (hbc : b ≠ cells) (hb : ∀ q ∈ news, q.1 ≠ b) :
    TellX w 3 94 [.ref b, .int many tm] ((b, ob) :: (cells, LCg.lst vs) :: news)
      (fun v news' => ∃ r t' tp' ob', v = .int r t' ∧ 0 ≤ r ∧ r < many ∧ Obj.IsDictOf (PySem.strKind theProg w) ob' [(Str.ofString "cells", .ref cells), (Str.ofString "place", .int (p + 1) tp')] ∧ news' = (b, ob') :: (cells, LCg.lst vs) :: news) False := by
  unfold TellX
  intro loose mean mg mb dp un gd cn cs a ccd cl outer A₀ base h₀ L m s Q E B F X N T hk hd hu hret _
  have hb' : ∀ q ∈ (cells, LCg.lst vs) :: news, q.1 ≠ b := fun q hq => by
    rcases List.mem_cons.mp hq with rfl | hq
    · exact Ne.symm hbc
    · exact hb q hq
  refine wpAny_call ?_
  k_dflt cell_enter
  k_with_none
  k_with "setItem ref str" => (k_here; k_dflt (refine' kda_set (knd := PySem.strKind _ _) ?F ?N (UpdF.head ?U) ?d (strKind_is _ _ _ _) ?z ?_; (case F => k_asm); (case N => k_asm); (case U => assumption); (case d => assumption); (case z => rw [sizeLine_eq]; exact Nat.le_of_ble_eq_true (by with_unfolding_all rfl))); intro h' o' F' N' hd'; (replace hd' := bag_stored hd'); (try dsimp only at N'))
  k_steps
  all_goals exact hret _ _ _ _ ⟨_, _, _, _, rfl, (fmod_in hm).1, (fmod_in hm).2, by with_reducible assumption, rfl⟩ (by with_reducible assumption) (by with_reducible assumption)
end Mine
namespace Mine
/-- a text of at most i figures, and what it tells -/
noncomputable def FigS (i : Nat) (x : Str) (n : Int) : Prop := (∀ c ∈ x.cps.toList, isDig c = true) ∧ x.cps.toList.length ≤ i ∧ n = val x.cps.toList
theorem figS_start : FigS 0 (Str.ofString "") 0 := ⟨by decide, by decide, by decide⟩
noncomputable def FigR (w : World) (b cells : Addr) (vs : List Value) (rest : List (Addr × Obj)) (m₀ : Str → Option Value) (p₀ : Int) (i : Nat) (m : Str → Option Value) (nx : List (Addr × Obj)) : Prop :=
  ∃ x tx n tn p tp ob, nx = (b, ob) :: (cells, LCg.lst vs) :: rest ∧ Obj.IsDictOf (PySem.strKind theProg w) ob [(Str.ofString "cells", .ref cells), (Str.ofString "place", .int p tp)] ∧ p₀ ≤ p ∧ p ≤ p₀ + i ∧ FigS i x n ∧
    m (Str.ofString "number") = some (.int n tn) ∧ m (Str.ofString "text") = some (.str x tx) ∧ ∀ z, z ≠ Str.ofString "turn" → z ≠ Str.ofString "figure" → z ≠ Str.ofString "number" → z ≠ Str.ofString "text" → m z = m₀ z
theorem fig_map {m m₀ : Str → Option Value} {a c : Value} (h1 : m (Str.ofString "number") = some a) (h2 : m (Str.ofString "text") = some c) (h3 : ∀ z, z ≠ Str.ofString "turn" → z ≠ Str.ofString "figure" → z ≠ Str.ofString "number" → z ≠ Str.ofString "text" → m z = m₀ z) :
    m = fun z => if z = Str.ofString "turn" then m (Str.ofString "turn") else if z = Str.ofString "figure" then m (Str.ofString "figure") else if z = Str.ofString "number" then some a else if z = Str.ofString "text" then some c else m₀ z := by
  funext z
  by_cases e1 : z = Str.ofString "turn"
  · rw [if_pos e1, e1]
  rw [if_neg e1]
  by_cases e2 : z = Str.ofString "figure"
  · rw [if_pos e2, e2]
  rw [if_neg e2]
  by_cases e3 : z = Str.ofString "number"
  · rw [if_pos e3, e3, h1]
  rw [if_neg e3]
  by_cases e4 : z = Str.ofString "text"
  · rw [if_pos e4, e4, h2]
  rw [if_neg e4]
  exact h3 z e1 e2 e3 e4
theorem item_fig {r : Int} (h0 : 0 ≤ r) (h1 : r < 10) : (Txt.item (Str.ofString "0123456789") r).cps.toList = [48 + r.toNat] := by
  obtain ⟨k, rfl⟩ := Int.eq_ofNat_of_zero_le h0
  have hk : k < 10 := Int.ofNat_lt.mp h1
  exact (by decide +kernel : ∀ k : Fin 10, (Txt.item (Str.ofString "0123456789") ((k.val : Nat) : Int)).cps.toList = [48 + ((k.val : Nat) : Int).toNat]) ⟨k, hk⟩
theorem app_list (x y : Str) : (x ++ y).cps.toList = x.cps.toList ++ y.cps.toList := by
  show (x.cps ++ y.cps).toList = _
  simp
theorem figS_turn {i : Nat} {x : Str} {n r : Int} (h : FigS i x n) (h0 : 0 ≤ r) (h1 : r < 10) : FigS (i + 1) (x ++ Txt.item (Str.ofString "0123456789") r) (10 * n + r) := by
  obtain ⟨a, b, c⟩ := h
  refine ⟨?_, ?_, ?_⟩
  · rw [app_list, item_fig h0 h1]
    intro z hz
    rcases List.mem_append.mp hz with hz | hz
    · exact a z hz
    · rw [List.mem_singleton.mp hz]
      simp only [isDig, Bool.and_eq_true, decide_eq_true_eq]
      omega
  · rw [app_list, item_fig h0 h1, List.length_append, List.length_singleton]
    omega
  · rw [app_list, item_fig h0 h1, val_snoc, ← c]
    omega
theorem figS_mono {i j : Nat} {x : Str} {n : Int} (h : FigS i x n) (hij : i ≤ j) : FigS j x n := ⟨h.1, Nat.le_trans h.2.1 hij, h.2.2⟩
theorem allLt2 {q b c : Addr} {ob oc : Obj} {news : List (Addr × Obj)} (h : b < q ∧ c < q ∧ AllLt q news) : AllLt q ((b, ob) :: (c, oc) :: news) := ⟨h.1, h.2.1, h.2.2⟩
theorem keep_app {a c : Addr × Obj} {r o : List (Addr × Obj)} : ∀ p ∈ a :: c :: r, p ∈ a :: c :: (r ++ o) := fun p hp => by
  simp only [List.mem_cons, List.mem_append] at hp ⊢
  exact hp.imp id (Or.imp id Or.inl)
section
variable {prog : Program} {w : World} {A : Around} {E : Value → Shared → Prop} {s : Shared} {env : Env} {h₀ : Heap} {body : List Stmt} {Q : Flow → Shared → Prop}
theorem fig_loop {r b cells L : Addr} {b₀ p : Int} {t₀ u₀ v₀ tn tx tp : Tok} {ob : Obj} {vs : List Value} {m₀ : Str → Option Value} {rest : List (Addr × Obj)}
    (hh : A.handled = none) (hL : env.locals = L) (hr : IsRange s.heap r 0 b₀ 1 t₀ u₀ v₀) (h0 : 0 ≤ b₀ ∧ b₀ ≤ 100)
    (F : Fr h₀ L s.heap (fun y => if y = Str.ofString "number" then some (.int 0 tn) else if y = Str.ofString "text" then some (.str (Str.ofString "") tx) else m₀ y))
    (N : News h₀ L s.heap ((b, ob) :: (cells, LCg.lst vs) :: rest)) (hob : Obj.IsDictOf (PySem.strKind theProg w) ob [(Str.ofString "cells", .ref cells), (Str.ofString "place", .int p tp)]) (hb : ∀ q ∈ rest, q.1 ≠ b)
    (turn : ∀ (k : Int) t (i : Nat) x tx n tn p' tp' ob' vf vt h tk own, i < b₀ → p ≤ p' → p' ≤ p + i → Obj.IsDictOf (PySem.strKind theProg w) ob' [(Str.ofString "cells", .ref cells), (Str.ofString "place", .int p' tp')] → FigS i x n → x.length ≤ 100 → (∀ q ∈ rest ++ own, q.1 ≠ b) →
      Fr h₀ L h (fun y => if y = Str.ofString "turn" then some (.int k t) else if y = Str.ofString "turn" then vt else if y = Str.ofString "figure" then vf else if y = Str.ofString "number" then some (.int n tn) else if y = Str.ofString "text" then some (.str x tx) else m₀ y) →
      News h₀ L h ((b, ob') :: (cells, LCg.lst vs) :: (rest ++ own)) →
      wpAny (model prog w) A (execs body env) (InvPostN h₀ L (FigR w b cells vs rest m₀ p (i + 1)) own (((b, ob) :: (cells, LCg.lst vs) :: rest).map (·.1)) { s with heap := h, toks := tk } Q) E { s with heap := h, toks := tk })
    (done : ∀ x tx n tn p' tp' ob' vf vt h tk, p ≤ p' → p' ≤ p + b₀ → Obj.IsDictOf (PySem.strKind theProg w) ob' [(Str.ofString "cells", .ref cells), (Str.ofString "place", .int p' tp')] → FigS b₀.toNat x n →
      Fr h₀ L h (fun y => if y = Str.ofString "turn" then vt else if y = Str.ofString "figure" then vf else if y = Str.ofString "number" then some (.int n tn) else if y = Str.ofString "text" then some (.str x tx) else m₀ y) →
      News h₀ L h ((b, ob') :: (cells, LCg.lst vs) :: rest) → Q .next { s with heap := h, toks := tk }) :
    wpAny (model prog w) A (pyIter (.ref r)) (fun it s₂ => LoopAtV prog w A h₀ env (Str.ofString "turn") body Q E it s₂) E s := by
  subst hL
  refine kpr_invN (n := (b₀ - 0).toNat) (FigR w b cells vs rest m₀ p) hh hr (small_one (by omega) (by omega) (by omega) (by omega)) (rangeSize_nat _ _) F N ⟨_, tx, _, tn, p, tp, ob, rfl, hob, by omega, by simp, figS_start, by rfl, by rfl, fun z _ _ h1 h2 => ?_⟩ ?_ ?_
  · simp only [if_neg h1, if_neg h2]
  · rintro i k t m₁ nx h tk own hk hoff ⟨x, tx', n, tn', p', tp', ob', rfl, ho, h1, h2, hS, e1, e2, e3⟩ F₁ N₁
    have hi : i < (b₀ - 0).toNat := by
      have := List.getElem?_eq_some_iff.mp hk
      obtain ⟨h, _⟩ := this
      rwa [rangeKs_length] at h
    rw [fig_map e1 e2 e3] at F₁
    refine turn k t i x tx' n tn' p' tp' ob' _ _ h tk own (by omega) h1 h2 ho hS (by have := hS.2.1; rw [Array.length_toList] at this; show x.cps.size ≤ 100; omega) ?_ F₁ N₁
    intro q hq
    rcases List.mem_append.mp hq with hq | hq
    · exact hb q hq
    · exact hoff q hq b (by simp)
  · rintro m₁ nx h tk ⟨x, tx', n, tn', p', tp', ob', rfl, ho, h1, h2, hS, e1, e2, e3⟩ F₁ N₁
    rw [fig_map e1 e2 e3] at F₁
    rw [rangeKs_length] at h2 hS
    exact done x tx' n tn' p' tp' ob' _ _ h tk h1 (by omega) ho (by simpa using hS) F₁ N₁
end
end Mine
namespace Mine
set_option maxRecDepth 100000 in
set_option maxHeartbeats 8000000 in
theorem fig_tell (w : World) (b cells : Addr) (ob : Obj) (p : Int) (tp : Tok) (most : Int) (tm : Tok) (vs : List Value) (ns : List Int) (hn : IntsAre vs ns) (hlen : ns.length ≤ 60)
    (hob : Obj.IsDictOf (PySem.strKind theProg w) ob [(Str.ofString "cells", .ref cells), (Str.ofString "place", .int p tp)])
    (hp : 0 ≤ p) (hp2 : p ≤ 900) (hm : 1 ≤ most) (hm2 : most ≤ 7) (news : List (Addr × Obj))
    (hbc : b ≠ cells) (hb : ∀ q ∈ news, q.1 ≠ b) :
    TellX w 6 101 [.ref b, .int most tm] ((b, ob) :: (cells, LCg.lst vs) :: news)
      (fun v news' => ∃ q x tx n tn p' tp' ob', v = .ref q ∧ AllLt q ((b, ob) :: (cells, LCg.lst vs) :: news) ∧ FigS most.toNat x n ∧ p ≤ p' ∧ p' ≤ p + 1 + most ∧ Obj.IsDictOf (PySem.strKind theProg w) ob' [(Str.ofString "cells", .ref cells), (Str.ofString "place", .int p' tp')] ∧
        news' = (q, { cls := .type "tuple", data := .seq #[.str x tx, .int n tn] }) :: (b, ob') :: (cells, LCg.lst vs) :: news) False := by
  unfold TellX
  intro loose mean mg mb dp un gd cn cs a ccd cl outer A₀ base h₀ L m s Q E B F X N T hk hd hu hret _
  refine wpAny_call ?_
  k_dflt cell_enter
  k_with_none
  k_with "call ref" => (k_here; (with_reducible show wpAny _ _ (call (Value.ref 94) [Value.ref _, Value.int _ _]) _ _ _); k_dflt (refine' TellX.use (rat_tell _ _ _ _ _ _ _ _ _ _ ?q1 ?q2 ?q3 ?q4 ?q5 ?q6 ?q7 _ ?q8 ?q9) ?k1 ?k2 ?k3 ?k4 ?k5 ?kK ?kd ?ku ?_ (fun h => h.elim); (case k1 => k_asm); (case k2 => k_asm); (case k3 => k_asm); (case k4 => first | with_reducible assumption | exact drop0 (by with_reducible assumption)); (case k5 => k_asm); (case kK => exact rfl); (case q1 => with_reducible assumption); (case q2 => with_reducible assumption); (case q3 => with_reducible assumption); (case q4 => omega); (case q5 => omega); (case q6 => first | decide | omega); (case q7 => first | decide | omega); (case q8 => with_reducible assumption); (case q9 => with_reducible assumption); (case kd => ktr_room); (case ku => ktr_units)); intro v9 news9 h9 tk9 hR9 F9 N9; obtain ⟨r9, t9, t9', ob9, hv9, e9, e9', e9'', hn9⟩ := hR9; subst hv9 hn9; (try dsimp only))
  k_with "pyIter ref" => (k_here; (rename Fr _ _ _ _ => lF'); (rename News _ _ _ _ => lN'); (rename IsRange _ _ _ _ _ _ _ _ => rgX); (with_unfolding_all refine' fig_loop (by rfl) (by rfl) (by first | exact rgX | assumption) (by omega) lF' lN' ?ob ?hb (fun k' t' i' x' tx' n' tn' p' tp' ob' vf' vt' h' tk' own' hi' hp1' hp2' ho' hS' hx' hb' F' N' => ?_) (fun x' tx' n' tn' p' tp' ob' vf' vt' h' tk' hp1' hp2' ho' hS' F' N' => ?_)); (case ob => with_reducible assumption); (case hb => with_reducible assumption); (all_goals (try clear lF' lN')); (all_goals (try dsimp only)))
  k_with "binaryOp Add str str" => (k_here; (with_reducible show wpAny _ _ (binaryOp Operator.Add (Value.str _ _) (Value.str _ _)) _ _ _); (refine SBL.add ?h ?z); (case z => rw [PySem.sizeLine_eq]; omega); (case h => skip); intro t' k'; (try dsimp only))
  k_steps
  · refine' InvEndN.intro (nx := (b, _) :: (cells, LCg.lst vs) :: news) (by with_reducible assumption) (drop0 (by with_reducible assumption)) ?hj ?ha ?hn (fun p hp => .tail _ (.tail _ (List.mem_append.mpr (.inr hp))))
    case hn => exact keep_app
    case ha => rfl
    refine ⟨_, _, _, _, _, _, _, rfl, by with_reducible assumption, ?_, ?_, figS_turn (by with_reducible assumption) (by with_reducible assumption) (by with_reducible assumption), rfl, rfl, fun z h1 h2 h3 h4 => ?_⟩
    · omega
    · omega
    · simp only [if_neg h1, if_neg h2, if_neg h3, if_neg h4]
  · refine hret _ _ _ _ ?_ (by with_reducible assumption) (by with_reducible assumption)
    refine ⟨_, _, _, _, _, _, _, _, rfl, allLt2 (by with_reducible assumption), figS_mono (by with_reducible assumption) ?_, ?_, ?_, by with_reducible assumption, rfl⟩
    all_goals omega
end Mine
namespace Mine
/-- how far the number is cut -/
noncomputable def CutInv (n : Nat) (d cut : Int) : Prop := 0 ≤ cut ∧ cut ≤ (figs n - d.toNat : Nat)
theorem div_lt {n k d : Nat} : n / 10 ^ k < 10 ^ d ↔ n < 10 ^ (d + k) := by
  rw [Nat.div_lt_iff_lt_mul (Nat.pow_pos (by decide)), Nat.pow_add]
theorem pow_nat (k : Nat) : (10 : Int) ^ k = ((10 ^ k : Nat) : Int) := by simp
theorem cut_start {n : Nat} {d : Int} : CutInv n d 0 := ⟨by omega, by omega⟩
theorem cut_turn {n : Nat} {d cut : Int} (inv : CutInv n d cut) (h : 10 ^ d.toNat ≤ (n : Int).fdiv (10 ^ cut.toNat)) : CutInv n d (cut + 1) := by
  obtain ⟨a, b⟩ := inv
  rw [fdiv_nat, pow_nat] at h
  have h1 := Int.ofNat_le.mp h
  refine ⟨by omega, ?_⟩
  by_cases q : cut + 1 ≤ (figs n - d.toNat : Nat)
  · exact q
  · have h2 := figs_lt n
    have h3 : n < 10 ^ (d.toNat + cut.toNat) := Nat.lt_of_lt_of_le h2 (Nat.pow_le_pow_right (by decide) (by omega))
    have := div_lt.mpr h3
    omega
theorem cut_exit {n : Nat} {d cut : Int} (hd : 1 ≤ d) (inv : CutInv n d cut) (h : ¬ 10 ^ d.toNat ≤ (n : Int).fdiv (10 ^ cut.toNat)) : cut = (figs n - d.toNat : Nat) := by
  obtain ⟨a, b⟩ := inv
  rw [fdiv_nat, pow_nat] at h
  have h1 : n / 10 ^ cut.toNat < 10 ^ d.toNat := by omega
  have h2 := figs_bound (by omega) (div_lt.mp h1)
  omega
noncomputable def UpInv (low tens first : Int) : Prop := 0 ≤ first - tens ∧ first - tens + 1 ≤ (figs low.toNat : Nat)
theorem up_start {low tens : Int} : UpInv low tens tens := ⟨by omega, by have := figs_pos low.toNat; omega⟩
theorem up_turn {low tens first : Int} (h0 : 0 < low) (inv : UpInv low tens first) (h : 10 ^ (first - tens + 1).toNat ≤ low) : UpInv low tens (first + 1) := by
  obtain ⟨a, b⟩ := inv
  refine ⟨by omega, ?_⟩
  by_cases q : first + 1 - tens + 1 ≤ (figs low.toNat : Nat)
  · exact q
  · have h2 := figs_lt low.toNat
    have h3 : (first - tens + 1).toNat = figs low.toNat := by omega
    rw [h3, pow_nat] at h
    omega
theorem up_exit {low tens first : Int} (h0 : 0 < low) (inv : UpInv low tens first) (h : ¬ 10 ^ (first - tens + 1).toNat ≤ low) : first = tens + (figs low.toNat : Nat) - 1 := by
  obtain ⟨a, b⟩ := inv
  rw [pow_nat] at h
  have h2 : low.toNat < 10 ^ (first - tens + 1).toNat := by omega
  have := figs_bound (by omega) h2
  omega
theorem cut_turn' {n : Nat} {d cut : Int} (hf : figs n ≤ 13) (hd : 1 ≤ d) (inv : CutInv n d cut) (h : 10 ^ d.toNat ≤ (n : Int).fdiv (10 ^ cut.toNat)) : 0 ≤ cut + 1 ∧ cut + 1 ≤ 13 ∧ CutInv n d (cut + 1) := by
  have := cut_turn inv h
  have h2 := this.2
  exact ⟨this.1, by omega, this⟩
theorem cut_measure {n : Nat} {d cut : Int} (inv : CutInv n d cut) (h : 10 ^ d.toNat ≤ (n : Int).fdiv (10 ^ cut.toNat)) : (((figs n - d.toNat : Nat) : Int) - (cut + 1)).toNat < (((figs n - d.toNat : Nat) : Int) - cut).toNat := by
  have := (cut_turn inv h).2
  exact toNat_lt (by omega) (by omega)
noncomputable def LowIs (c d low cut : Int) : Prop := low = sizeOf' c d.toNat ∧ cut = more c d.toNat
theorem low_of {c d low cut : Int} (hd : 1 ≤ d) (inv : CutInv c.natAbs d cut) (h : ¬ 10 ^ d.toNat ≤ (c.natAbs : Int).fdiv (10 ^ cut.toNat)) (hl : low = rnd c.natAbs cut.toNat) : LowIs c d low cut := by
  have h1 := cut_exit hd inv h
  have h2 : cut = (more c d.toNat : Nat) := h1
  have h3 : cut.toNat = more c d.toNat := by omega
  have h4 := rnd_nonneg (n := c.natAbs) (by omega) (more c d.toNat)
  rw [h3] at hl
  exact ⟨by unfold sizeOf'; omega, h2⟩
theorem near_zero {c e d low cut : Int} (h : LowIs c d low cut) (hz : low = 0) : dec c e d.toNat = some (0, 0) := by
  obtain ⟨h1, _⟩ := h
  unfold dec decOf
  rw [if_pos (by unfold sizeOf' at h1; omega)]
theorem near_start {c e d low cut : Int} (h : LowIs c d low cut) (hz : low ≠ 0) : 0 < low ∧ DropInv (sizeOf' c d.toNat) (e + more c d.toNat) low (e + cut) := by
  obtain ⟨h1, h2⟩ := h
  refine ⟨by omega, ?_⟩
  rw [h2]
  exact drop_start (by omega) hz
theorem drop_small {c d e low ex : Int} (hc : c.natAbs < 10 ^ 13) (inv : DropInv (sizeOf' c d.toNat) e low ex) : figs low.toNat ≤ 14 := by
  obtain ⟨z, h1, _, h3⟩ := inv
  have h2 := rnd_near c.natAbs (more c d.toNat)
  have h4 : sizeOf' c d.toNat ≤ c.natAbs + 1 := by
    unfold sizeOf'
    have := Nat.div_le_self c.natAbs (10 ^ more c d.toNat)
    omega
  have h5 : low ≤ sizeOf' c d.toNat := by
    rw [h1]
    have h6 : (1 : Int) ≤ ((10 ^ z : Nat) : Int) := by have := Nat.pow_pos (n := z) (show 0 < 10 by decide); omega
    calc low = low * 1 := (Int.mul_one _).symm
      _ ≤ low * ((10 ^ z : Nat) : Int) := Int.mul_le_mul_of_nonneg_left h6 (by omega)
  refine figs_bound (by decide) ?_
  have : (10 : Nat) ^ 13 + 1 ≤ 10 ^ 14 := by decide
  omega
theorem up_turnN {low tens first : Int} (h14 : figs low.toNat ≤ 14) (h0 : 0 < low) (inv : UpInv low tens first) (h : 10 ^ (first - tens + 1).toNat ≤ low) : 0 ≤ first + 1 - tens ∧ first + 1 - tens ≤ 13 ∧ UpInv low tens (first + 1) := by
  have := up_turn h0 inv h
  exact ⟨this.1, by have := this.2; omega, this⟩
theorem up_measure {low tens first : Int} (h0 : 0 < low) (inv : UpInv low tens first) (h : 10 ^ (first - tens + 1).toNat ≤ low) : (((figs low.toNat : Nat) : Int) + tens - (first + 1)).toNat < (((figs low.toNat : Nat) : Int) + tens - first).toNat := by
  have := (up_turn h0 inv h).2
  exact toNat_lt (by omega) (by omega)
theorem near_ov {c e d low tens first : Int} (h0 : 0 < low) (inv : DropInv (sizeOf' c d.toNat) (e + more c d.toNat) low tens) (hx : low.fmod 10 ≠ 0) (up : UpInv low tens first) (hu : ¬ 10 ^ (first - tens + 1).toNat ≤ low) (h : 99 < first) : dec c e d.toNat = none :=
  made_ov inv hx rfl (by have := up_exit h0 up hu; omega)
theorem near_low {c e d low tens first : Int} (h0 : 0 < low) (inv : DropInv (sizeOf' c d.toNat) (e + more c d.toNat) low tens) (hx : low.fmod 10 ≠ 0) (up : UpInv low tens first) (hu : ¬ 10 ^ (first - tens + 1).toNat ≤ low) (h : ¬ 99 < first) (h' : first < -99) : dec c e d.toNat = some (0, 0) :=
  made_low inv hx rfl (by have := up_exit h0 up hu; omega) (by have := up_exit h0 up hu; omega)
theorem near_midN {c e d low tens first : Int} (h0 : 0 < low) (inv : DropInv (sizeOf' c d.toNat) (e + more c d.toNat) low tens) (hx : low.fmod 10 ≠ 0) (up : UpInv low tens first) (hu : ¬ 10 ^ (first - tens + 1).toNat ≤ low) (h : ¬ 99 < first) (h' : ¬ first < -99) (hc : c < 0) : dec c e d.toNat = some (0 - low, tens) := by
  have := made_midN inv hx rfl (by have := up_exit h0 up hu; omega) (by have := up_exit h0 up hu; omega) hc
  rw [this]
  simp
theorem near_midP {c e d low tens first : Int} (h0 : 0 < low) (inv : DropInv (sizeOf' c d.toNat) (e + more c d.toNat) low tens) (hx : low.fmod 10 ≠ 0) (up : UpInv low tens first) (hu : ¬ 10 ^ (first - tens + 1).toNat ≤ low) (h : ¬ 99 < first) (h' : ¬ first < -99) (hc : ¬ c < 0) : dec c e d.toNat = some (low, tens) :=
  made_midP inv hx rfl (by have := up_exit h0 up hu; omega) (by have := up_exit h0 up hu; omega) hc
noncomputable def RNear (c e d : Int) (news : List (Addr × Obj)) (v : Value) (news' : List (Addr × Obj)) : Prop :=
  (dec c e d.toNat = none ∧ v = .none ∧ news' = news) ∨ ∃ l x y t1 t2, dec c e d.toNat = some (x, y) ∧ v = .ref l ∧ AllLt l news ∧ news' = (l, { cls := .type "tuple", data := .seq #[.int x t1, .int y t2] }) :: news
theorem rn_none {c e d : Int} {news : List (Addr × Obj)} (h : dec c e d.toNat = none) : RNear c e d news .none news := Or.inl ⟨h, rfl, rfl⟩
theorem rn_some {c e d x y : Int} {news : List (Addr × Obj)} {l : Addr} {t1 t2 : Tok} (h : dec c e d.toNat = some (x, y)) (hl : AllLt l news) : RNear c e d news (.ref l) ((l, { cls := .type "tuple", data := .seq #[.int x t1, .int y t2] }) :: news) := Or.inr ⟨l, x, y, t1, t2, h, rfl, hl, rfl⟩
set_option maxRecDepth 100000 in
set_option maxHeartbeats 8000000 in
theorem near_tell (w : World) (c e d : Int) (tc te td : Tok) (hc : c.natAbs < 10 ^ 13) (hf : figs c.natAbs ≤ 13) (h1 : 1 ≤ d) (h2 : d ≤ 100) (news : List (Addr × Obj)) :
    TellX w 2 108 [.int c tc, .int e te, .int d td] news (RNear c e d news) False := by
  unfold TellX
  intro loose mean mg mb dp un gd cn cs a ccd cl outer A₀ base h₀ L m s Q E B F X N T hk hd hu hret _
  refine wpAny_call ?_
  k_dflt cell_enter
  k_with_none
  k_with "call builtin:abs" => (k_here; (with_reducible refine abs_tell ?_); intro t8 k8; (try dsimp only))
  k_with "binaryOp FloorDiv int int" => (k_here; (with_reducible refine div10_tell ?hs ?_); (case hs => omega); (try dsimp only))
  k_with "binaryOp Mod int int" => (k_here; (with_reducible refine mod10_tell ?hs ?_); (case hs => omega); (try dsimp only))
  k_with "binaryOp Pow int int" => (k_here; (with_reducible refine pow_tell ?hs ?ht ?_); (case hs => omega); (case ht => omega); (try dsimp only))
  k_with "state" => ((try dsimp only); first | exact ⟨by omega, by omega, cut_start⟩ | exact cut_turn' hf h1 (by with_reducible assumption) (by with_reducible assumption))
  k_with "measure" => exact cut_measure (by with_reducible assumption) (by with_reducible assumption)
  repeat' ((fail_if_success (with_reducible show wpAny _ _ (exec (Stmt.While _ _ _ _) _) _ _ _)); walk1)
  all_goals try (k_while (fun _ cut => 0 ≤ cut ∧ cut ≤ 13 ∧ CutInv c.natAbs d cut) (fun _ cut => ((figs c.natAbs - d.toNat : Nat) - cut).toNat) "cut")
  repeat' ((fail_if_success (with_reducible show wpAny _ _ (exec (Stmt.If _ _ _ _) _) _ _ _)); walk1)
  rename Fr _ _ _ _ => F1
  refine join_exec (ι := Int × Tok × Int × Tok) F1 news (fun i m' y => if y = Str.ofString "number" then some (.int c tc) else if y = Str.ofString "tens" then some (.int e te) else if y = Str.ofString "low" then some (.int i.1 i.2.1) else if y = Str.ofString "cut" then some (.int i.2.2.1 i.2.2.2) else m' y) (fun i => LowIs c d i.1 i.2.2.1) ?_ ?_
  · k_steps
    all_goals refine Joined.intro (_, _, _, _) (Fr.sees [(Str.ofString "number", _), (Str.ofString "tens", _), (Str.ofString "low", _), (Str.ofString "cut", _)] (by with_reducible assumption) (by repeat (first | exact trivial | refine And.intro rfl ?_))) (news_sub (by with_reducible assumption) (by repeat (first | exact sub_refl | refine sub_tail ?_))) (low_of h1 (by with_reducible assumption) (by with_reducible assumption) (by first | exact rnd1 (by with_reducible assumption) | exact rnd2 (by with_reducible assumption) (by with_reducible assumption) | exact rnd3 (by with_reducible assumption) (by with_reducible assumption) | exact rnd4 (by with_reducible assumption) (by with_reducible assumption)))
  clear F1
  rintro ⟨low, tlow, cut, tcut⟩ m3 hh3 tk3 F3 N3 lowIs
  dsimp only at F3 lowIs ⊢
  repeat' ((fail_if_success (with_reducible show wpAny _ _ (exec (Stmt.While _ _ _ _) _) _ _ _)); walk1)
  k_with "state" => ((try dsimp only); first | exact near_start lowIs (by with_reducible assumption) | exact drop_turn' (by with_reducible assumption) (by with_reducible assumption))
  k_with "measure" => exact drop_measure (by with_reducible assumption)
  all_goals try (k_while (fun _ low tens => 0 < low ∧ DropInv (sizeOf' c d.toNat) (e + more c d.toNat) low tens) (fun _ low tens => low.toNat) "low" "tens")
  repeat' ((fail_if_success (with_reducible show wpAny _ _ (exec (Stmt.While _ _ _ _) _) _ _ _)); walk1)
  k_with "state" => ((try dsimp only); first | exact ⟨by with_reducible assumption, by with_reducible assumption, by with_reducible assumption, by omega, by omega, up_start⟩ | exact ⟨by with_reducible assumption, by with_reducible assumption, by with_reducible assumption, up_turnN (drop_small hc (by with_reducible assumption)) (by with_reducible assumption) (by with_reducible assumption) (by with_reducible assumption)⟩)
  k_with "measure" => first | exact up_measure (by with_reducible assumption) (by with_reducible assumption) (by with_reducible assumption)
  all_goals try (k_while_given ["low", "tens"] (fun low tens _ first => 0 < low ∧ DropInv (sizeOf' c d.toNat) (e + more c d.toNat) low tens ∧ low.fmod 10 ≠ 0 ∧ 0 ≤ first - tens ∧ first - tens ≤ 13 ∧ UpInv low tens first) (fun low tens _ first => (((figs low.toNat : Nat) : Int) + tens - first).toNat) "first")
  k_steps
  all_goals first
    | exact hret _ _ _ _ (rn_none (near_ov (by with_reducible assumption) (by with_reducible assumption) (by with_reducible assumption) (by with_reducible assumption) (by with_reducible assumption) (by with_reducible assumption))) (by with_reducible assumption) (news_sub (by with_reducible assumption) (by repeat (first | exact sub_refl | refine sub_tail ?_)))
    | (have y9 := (by first | exact near_zero lowIs (by with_reducible assumption) | exact near_low (by with_reducible assumption) (by with_reducible assumption) (by with_reducible assumption) (by with_reducible assumption) (by with_reducible assumption) (by with_reducible assumption) (by with_reducible assumption) | exact near_midN (by with_reducible assumption) (by with_reducible assumption) (by with_reducible assumption) (by with_reducible assumption) (by with_reducible assumption) (by with_reducible assumption) (by with_reducible assumption) (by with_reducible assumption) | exact near_midP (by with_reducible assumption) (by with_reducible assumption) (by with_reducible assumption) (by with_reducible assumption) (by with_reducible assumption) (by with_reducible assumption) (by with_reducible assumption) (by with_reducible assumption) : dec c e d.toNat = some (_, _))
       have N7 := news_sub (small := _ :: news) (by with_reducible assumption) (sub_cons (by repeat (first | exact sub_refl | refine sub_tail ?_)))
       exact hret _ _ _ _ (rn_some y9 (by first | with_reducible assumption | exact And.right (by with_reducible assumption) | exact And.right (And.right (by with_reducible assumption)) | exact And.right (And.right (And.right (by with_reducible assumption))) | exact And.right (And.right (And.right (And.right (by with_reducible assumption)))) | exact And.right (And.right (And.right (And.right (And.right (by with_reducible assumption))))) | exact And.right (And.right (And.right (And.right (And.right (And.right (by with_reducible assumption)))))) | exact And.right (And.right (And.right (And.right (And.right (And.right (And.right (by with_reducible assumption))))))) | exact And.right (And.right (And.right (And.right (And.right (And.right (And.right (And.right (by with_reducible assumption)))))))))) (by with_reducible assumption) N7)
end Mine
namespace Mine
set_option maxRecDepth 100000
section
variable {prog : Program} {w : World} {A₀ : Around} {E : Value → Shared → Prop} {s' : Shared} {base g G : Heap} {outer : List Env} {L a e : Addr} {m : Str → Option Value} {name : Str} {scope : Scope} {cd : Value}
  {n : Str} {b₀ : Stmt} {suite : List Stmt} {pos np : Pos} {rest : List ExceptHandler} {Q : Flow → Shared → Prop} {news : List (Addr × Obj)} {KF : Frag}
  {p : Program} {loose : List Str} {mean : ExcName → Option Value} {mg mb : Str → Option Value} {x : Str} {c : Value}
theorem code_apart {h : Heap} (hc : codeIs c h e) (hns : h.Ns L m) (hm : m (Str.ofString "code") = none) : ∃ o d mA, h.get? e = some o ∧ o.dict = some d ∧ h.Ns d mA ∧ mA (Str.ofString "code") = some c ∧ d ≠ L := by
  obtain ⟨o, d, mA, h1, h2, h3, h4⟩ := hc
  refine ⟨o, d, mA, h1, h2, h3, h4, fun q => ?_⟩
  subst q
  obtain ⟨o1, es1, ep1, g1, g2, _, g4⟩ := h3
  obtain ⟨o2, es2, ep2, f1, f2, _, f4⟩ := hns
  rw [g1] at f1
  cases f1
  rw [g2] at f2
  cases f2
  rw [← g4] at h4
  rw [← f4] at hm
  rw [hm] at h4
  cases h4
theorem caughtC (R : RaisedC base G (envOf name scope L a cd :: outer) e news c s'.heap) (F : Fr g L G m) (K : Below A₀ base outer g) (hsm : G.UpToSlots s'.heap) (XB : KF.In base) (TB : Top p loose mean mg mb base)
    (D : KtsDicts (outer.filterMap (·.frame)) g)
    (ex : nsIn KF mainGlobals x = some (some (.ref 34))) (q : ktsIn KF 34 "BaseException" = true) (hm : m (Str.ofString "code") = none)
    (k : ∀ h' g' tk o, KtsTurn (outer.filterMap (·.frame)) g g' → Fr g' L h' (fun y => if y = n then some (.ref e) else m y) → News g' L h' news → codeIs c h' e → h'.get? e = some o → o.cls = .ref 34 → (∃ fs, o.data = .fields fs) → Below A₀ base outer g' → KF.In g' → Top p loose mean mg mb g' → KtsDicts (outer.filterMap (·.frame)) g' →
      wpAny (model prog w) ((A₀.deeper (envOf name scope L a cd)).mark (some (.ref e))) (execs (b₀ :: suite) (envOf name scope L a cd))
        (fun f s₄ => wpAny (model prog w) (A₀.deeper (envOf name scope L a cd)) (do bindName (envOf name scope L a cd) n .none; unbindBehindTheSuite (envOf name scope L a cd) n pos) (fun _ s₅ => Q f s₅) E s₄)
        (AsSuiteRaised (model prog w) ((A₀.deeper (envOf name scope L a cd)).mark (some (.ref e))) (envOf name scope L a cd) n pos (notedBy (model prog w) ((A₀.deeper (envOf name scope L a cd)).mark (some (.ref e))) (envOf name scope L a cd) (cameBackBy (model prog w) (A₀.deeper (envOf name scope L a cd)) (envOf name scope L a cd) E)))
        { s' with heap := h', toks := tk })
    (hk : scope.kind = .function := by rfl) (hlo : (envOf name scope L a cd).kindOf n = some .local := by rfl) (hx : (envOf name scope L a cd).kindOf x = some .globalImplicit := by rfl) (hd : (x == ("__debug__" : Str)) = false := by decide) :
    wpAny (model prog w) (A₀.deeper (envOf name scope L a cd)) (noteFrame (.ref e) (envOf name scope L a cd))
      (fun _ s₂ => wpAny (model prog w) (A₀.deeper (envOf name scope L a cd)) (setFlight (.ref e) none) (fun _ s₃ =>
        wpAny (model prog w) (A₀.deeper (envOf name scope L a cd)) (handleBy (.ref e) (envOf name scope L a cd) (.ExceptHandler (some (.Name x np)) (some n) (b₀ :: suite) pos :: rest)) Q E s₃) E s₂) E s' := by
  obtain ⟨B, a0, hB, hBG, hl, hfl, hc⟩ := R
  have hL : B.get? L = none := by
    obtain ⟨_, ⟨L', _, hf, hn', _⟩, _⟩ := hfl.2.2.1
    obtain rfl : L = L' := Option.some.inj hf
    exact hn'
  refine wpAny_mono (quiet_any (quiet_noteFrame _ _) (wpAny_looks_onW (Q := fun _ s'' => ∃ h', s'' = { s' with heap := h' } ∧ Heap.HeldW B (envOf name scope L a cd :: outer) e (.ref 34) a0 L h' ∧ s'.heap.UpToSlots h') (Around.frames_deeper K.stack) rfl hfl fun h' x1 x2 => ⟨h', rfl, x1, x2⟩)) (fun _ s'' q => ?_) fun _ _ q => q.1
  obtain ⟨⟨h₄, rfl, hheld₄, hsm₄⟩, kd₄⟩ := q
  refine wpAny_mono (quiet_any (quiet_setFlight _ _) (wpAny_landsW (Q := fun _ s'' => ∃ h', s'' = { s' with heap := h' } ∧ Heap.FlyingW B (envOf name scope L a cd :: outer) e (.ref 34) a0 h' ∧ h₄.UpToSlots h') hheld₄ fun h' x1 x2 => ⟨h', rfl, x1, x2⟩)) (fun _ s'' q => ?_) fun _ _ q => q.1
  obtain ⟨⟨h₅, rfl, hheld, hsm₅'⟩, kd₅⟩ := q
  have hc₄ := codeIs_kept hc kd₄ hsm₄
  have hc₅ := codeIs_kept hc₄ kd₅ hsm₅'
  have hsm₅ := hsm₄.trans hsm₅'
  obtain ⟨g₅, T₅, F₅, K₅⟩ := kts_ground K F hBG hheld.1 (hsm.trans hsm₅)
  have X₅ : KF.In g₅ := XB.keeps K₅.stays
  have P₅ : TopRead p loose mg mb g₅ := topRead_of (TB.keeps K₅.stays)
  obtain ⟨ob, hob, hobc⟩ := hheld.there
  obtain ⟨nm, q', N, bs, bm, hdct, sn, sub, ab, col, dd, k0, k1, k2, k3, k5, newId, hC, hbase, hbT⟩ := kts_cls X₅ q
  have hC₅ := F₅.keep _ _ hC
  refine wpAny_handleBy_cons (codeAny_handlers_test (name_K F₅ X₅ P₅ ex ?_ hk hx hd)) (by intro q; cases q)
  refine wpAny_excMatches_sub_self hC₅ hob hobc hbase (codeAny_handlers_suite_as ?_)
  refine wpAny_mono (quiet_any (quiet_setFlight _ _) (lands_againW (Q := fun _ s'' => ∃ h', s'' = { s' with heap := h' } ∧ Heap.FlyingW B (envOf name scope L a cd :: outer) e (.ref 34) a0 h' ∧ h₅.UpToSlots h') hheld fun h' x1 x2 => ⟨h', rfl, x1, x2⟩)) (fun _ s'' q => ?_) fun _ _ q => q.1
  obtain ⟨⟨h₆, rfl, hfl₆, hsm₆⟩, kd₆⟩ := q
  have hc₆ := codeIs_kept hc₅ kd₆ hsm₆
  obtain ⟨g₆, T₆, F₆, K₆⟩ := kts_ground K F hBG hfl₆.1 ((hsm.trans hsm₅).trans hsm₆)
  obtain ⟨oe, ws, hoe, hoec, hoed, hoe0⟩ := hfl₆.first
  have Nl : News g₆ L h₆ news := fun q hq => ⟨hfl₆.1 _ _ (hl q hq).1, (fun z => by have := (hl q hq).1; rw [z, hL] at this; cases this), T₆.none_ _ (kts_none F.keep (hl q hq).2.1)⟩
  have X₆ : KF.In g₆ := XB.keeps K₆.stays
  have P₆ : Top p loose mean mg mb g₆ := TB.keeps K₆.stays
  have D₆ : KtsDicts (outer.filterMap (·.frame)) g₆ := D.turn T₆
  obtain ⟨o, d, mA, c1, c2, c3, c4, c5⟩ := code_apart hc₆ F₆.ns hm
  have heL : e ≠ L := fun q => by
    obtain ⟨o2, es2, ep2, f1, f2, _, _⟩ := F₆.ns
    rw [← q, hoe] at f1
    cases f1
    rw [hoed] at f2
    cases f2
  refine wpAny_storeName_local hlo F₆.ns (fun h₇ hn hs => ?_) (by show (scope.kind == .class || (scope.kind == .module && L != mainGlobals)) = false; rw [hk]; rfl)
  have c3' : h₇.Ns d mA := by
    obtain ⟨o2, es2, ep2, f1, f2⟩ := c3
    exact ⟨o2, es2, ep2, (hs.2 _ c5).trans f1, f2⟩
  exact k h₇ g₆ _ oe T₆ (F₆.set hn hs) (Nl.set hs) ⟨o, d, mA, (hs.2 _ heL).trans c1, c2, c3', c4⟩ ((hs.2 _ heL).trans hoe) hoec ⟨_, hoed⟩ K₆ X₆ P₆ D₆
end
end Mine
namespace Mine
set_option maxRecDepth 100000
theorem basic_ga (w : World) : findIn (Mine.hd.heap_39 w.params) (.ref 34) (Str.ofString "__getattribute__") = some (some (.builtin "BaseException.__getattribute__")) := by kernel_rfl
theorem basic_noga (w : World) : findIn (Mine.hd.heap_39 w.params) (.ref 34) (Str.ofString "__getattr__") = some none := by kernel_rfl
theorem basic_nocode (w : World) : findIn (Mine.hd.heap_39 w.params) (.ref 34) (Str.ofString "code") = some none := by kernel_rfl
theorem basic_hasDict (w : World) : hasDictIn (Mine.hd.heap_39 w.params) 34 = true := by kernel_rfl
section
variable {w : World} {A : Around} {E : Value → Shared → Prop} {e : Addr} {o : Obj} {c : Value} {h : Heap} {g : Array GenState} {d : Drawn} {t : Nat} {os : OsState}
theorem code_found (X : (Mine.hd.heap_39 w.params).In h) (hc : codeIs c h e) (he : h.get? e = some o) (hcls : o.cls = .ref 34) (hd : ∃ fs, o.data = .fields fs) : ∃ od, InstAt h e o 34 (some od) ∧ findObj (Mine.hd.heap_39 w.params) 34 (some od) (Str.ofString "code") = some (.value c) := by
  obtain ⟨o', d, mA, h1, h2, ⟨od, es, ep, g1, g2, g3, g4⟩, h4⟩ := hc
  rw [he] at h1
  cases h1
  obtain ⟨fs, hd⟩ := hd
  have hl : lookIn (Str.ofString "code") od = some (some c) := by
    unfold lookIn
    rw [g2]
    dsimp only
    rw [← g4] at h4
    unfold nsFind findBy at h4
    rw [← Array.find?_toList] at h4
    split
    · rename_i e' q
      rw [q] at h4
      simpa using h4
    · rename_i q
      rw [q] at h4
      cases h4
  refine ⟨od, ⟨he, hcls, by unfold notCls; rw [hd], by rw [h2]; exact g1⟩, findObj_own (basic_hasDict w) (basic_nocode w) rfl hl⟩
theorem code_entry {M : Program} {tk : Tok} {Q : Fin → Shared → Prop} {od : Obj} (X : (Mine.hd.heap_39 w.params).In h) (I : InstAt h e o 34 (some od)) (hf : findObj (Mine.hd.heap_39 w.params) 34 (some od) (Str.ofString "code") = some (.value c)) (hq : Q (.done (.ret c)) ⟨h, g, d, t, os⟩) :
    wpAny (model M w) A (Builtin.«object.__getattribute__» ⟨[.ref e, .str (Str.ofString "code") tk], []⟩) Q E ⟨h, g, d, t, os⟩ := by
  have L0 := I.type (M := model M w)
  have L1 := looks_find (M := model M w) X I hf
  repeat (any_goals (first | assumption | with_reducible refine L0.at ?_ | with_reducible refine L1.at ?_ | wp_step))
theorem code_call {M : Program} {tk : Tok} {R : Result → Shared → Prop} (X : (Mine.hd.heap_39 w.params).In h) (hc : codeIs c h e) (he : h.get? e = some o) (hcls : o.cls = .ref 34) (hd : ∃ fs, o.data = .fields fs) (hq : R (.ok (.ret c)) ⟨h, g, d, t, os⟩) :
    codeAny (model M w) A (.call (.builtin "BaseException.__getattribute__") ⟨[.ref e, .str (Str.ofString "code") tk], []⟩) R ⟨h, g, d, t, os⟩ := by
  obtain ⟨od, I, hf⟩ := code_found X hc he hcls hd
  exact codeAny_call_builtin PySem.F.attrBase_Exception.ga.plain F.entry_bexc_ga (wpAny_check_ga_own PySem.F.attrBase_Exception (X _ _ (basic_at w)) .base he hcls (code_entry X I hf hq))
theorem code_by {M : Program} {tk : Tok} {fill expr : Bool} {Q : Value → Shared → Prop} (X : (Mine.hd.heap_39 w.params).In h) (hc : codeIs c h e) (he : h.get? e = some o) (hcls : o.cls = .ref 34) (hd : ∃ fs, o.data = .fields fs) (hh : handedIn c = true) (hq : Q c ⟨h, g, d, t, os⟩) :
    wpAny (model M w) A (getAttrBy (.ref e) (.str (Str.ofString "code") tk) fill expr) Q E ⟨h, g, d, t, os⟩ := by
  have f3 := PySem.F.attrBase_Exception.ga.bind (.ref e)
  have hx0 : (expr && onTheHeap (Value.builtin "BaseException.__getattribute__")) = false := by cases expr <;> rfl
  have hx2 : (Value.builtin "BaseException.__getattribute__" == Value.builtin "object.__getattribute__") = false := by decide +kernel
  have hx1 : (onTheHeap (Value.ref 34) && Value.builtin "BaseException.__getattribute__" == Value.builtin "object.__getattribute__") = false := by rw [hx2]; rfl
  obtain ⟨od, I, hf⟩ := code_found X hc he hcls hd
  have L0 := I.type (M := model M w)
  have L1 := looks_findIn (M := model M w) X (basic_ga w)
  have L2 := looks_findIn (M := model M w) X (basic_noga w)
  repeat (any_goals (first | assumption | with_reducible refine L0.at ?_ | with_reducible refine L1.at ?_ | with_reducible refine L2.at ?_ | wp_step))
  refine code_call X hc he hcls hd ?_
  repeat (any_goals (first | assumption | (rw [handedOut_of hh]; exact wpAny_pure hq) | wp_step))
end
theorem get_code {M : Program} {w : World} {A : Around} {E : Value → Shared → Prop} {s : Shared} {e : Addr} {o : Obj} {c : Value} {expr : Bool} {Q : Value → Shared → Prop} (X : (Mine.hd.heap_39 w.params).In s.heap) (hc : codeIs c s.heap e) (he : s.heap.get? e = some o) (hcls : o.cls = .ref 34) (hd : ∃ fs, o.data = .fields fs)
    (hh : handedIn c = true) (h : Q c { s with toks := s.toks + 1 }) : wpAny (model M w) A (getAttr (.ref e) (Str.ofString "code") expr) Q E s := by
  obtain ⟨hp, g, d, t, os⟩ := s
  unfold getAttr
  repeat (any_goals (first | assumption | with_reducible apply code_by X hc he hcls hd hh | wp_step))
end Mine
namespace Mine
/-- a contract of a def that may turn the slots of the frames below (it catches) -/
noncomputable def TellS (w : World) (k : Nat) (f : Addr) (vs : List Value) (news : List (Addr × Obj)) (R : Value → List (Addr × Obj) → Prop) : Prop :=
  ∀ (loose : List Str) (mean : ExcName → Option Value) (mg mb : Str → Option Value)
    (dp un : Nat) (gd : Option (List Code)) (cn : Str) (cs : Scope) (a : Addr) (ccd : Value) (outer : List Env) (A₀ : Around) (base h₀ : Heap) (L : Addr) (m : Str → Option Value) (s : Shared) (Q E : Value → Shared → Prop),
    Below A₀ base outer h₀ → Fr h₀ L s.heap m → (Mine.hd.heap_39 w.params).In h₀ → News h₀ L s.heap news → Top Mine.hd.view_39 loose mean mg mb h₀ →
    (Mine.hd.heap_39 w.params).In base → Top Mine.hd.view_39 loose mean mg mb base → KtsDicts (outer.filterMap (·.frame)) h₀ → cs.kind = .function →
    dp + k < recursionLimit → un + 8 * k < cLine →
    (∀ v news' h' tk' g, R v news' → KtsTurn (outer.filterMap (·.frame)) h₀ g → Fr g L h' m → News g L h' news' → Below A₀ base outer g → (Mine.hd.heap_39 w.params).In g → Top Mine.hd.view_39 loose mean mg mb g → KtsDicts (outer.filterMap (·.frame)) g → Q v { s with heap := h', toks := tk' }) →
      wpAny (model theProg w) (ktrTop dp un gd cn cs L a ccd [] outer) (call (.ref f) vs) Q E s
theorem TellS.use {w : World} {k : Nat} {f : Addr} {vs : List Value} {news : List (Addr × Obj)} {R : Value → List (Addr × Obj) → Prop} (C : TellS w k f vs news R)
    {loose : List Str} {mean : ExcName → Option Value} {mg mb : Str → Option Value}
    {dp un : Nat} {gd : Option (List Code)} {cn : Str} {cs : Scope} {a : Addr} {ccd : Value} {outer : List Env} {A₀ : Around} {base h₀ : Heap} {L : Addr} {m : Str → Option Value} {s : Shared} {Q E : Value → Shared → Prop}
    (B : Below A₀ base outer h₀) (F : Fr h₀ L s.heap m) (X : (Mine.hd.heap_39 w.params).In h₀) (N : News h₀ L s.heap news) (T : Top Mine.hd.view_39 loose mean mg mb h₀)
    (XB : (Mine.hd.heap_39 w.params).In base) (TB : Top Mine.hd.view_39 loose mean mg mb base) (D : KtsDicts (outer.filterMap (·.frame)) h₀) (hk : cs.kind = .function)
    (hd : dp + k < recursionLimit) (hu : un + 8 * k < cLine)
    (ret : ∀ v news' h' tk' g, R v news' → KtsTurn (outer.filterMap (·.frame)) h₀ g → Fr g L h' m → News g L h' news' → Below A₀ base outer g → (Mine.hd.heap_39 w.params).In g → Top Mine.hd.view_39 loose mean mg mb g → KtsDicts (outer.filterMap (·.frame)) g → Q v { s with heap := h', toks := tk' }) :
    wpAny (model theProg w) (ktrTop dp un gd cn cs L a ccd [] outer) (call (.ref f) vs) Q E s :=
  C loose mean mg mb dp un gd cn cs a ccd outer A₀ base h₀ L m s Q E B F X N T XB TB D hk hd hu ret
theorem in_of {K : Frag} {g h : Heap} {L : Addr} {m : Str → Option Value} (F : Fr g L h m) (X : K.In g) : K.In h := X.keeps F.keep
noncomputable def RHeard (x : Str) (d : Int) (news : List (Addr × Obj)) (v : Value) (news' : List (Addr × Obj)) : Prop :=
  RText x d news v news' ∨ (pN x.cps.toList ≠ 0 ∧ pR x.cps.toList d.toNat = none ∧ ∃ t, v = .str (Str.ofString "OV") t ∧ news' = news)
set_option maxRecDepth 100000 in
set_option maxHeartbeats 8000000 in
theorem heard_tell (w : World) (x : Str) (t : Tok) (d : Int) (td : Tok) (hd1 : 1 ≤ d) (hx : x.length ≤ 100) (hN : pN x.cps.toList ≤ 13) (news : List (Addr × Obj)) :
    TellS w 22 115 [.str x t, .int d td] news (RHeard x d news) := by
  unfold TellS
  intro loose mean mg mb dp un gd cn cs a ccd outer A₀ base h₀ L m s Q E B F X N T XB TB D hk hd hu hret
  refine wpAny_call ?_
  k_with_none
  k_with "MINE enter" => (refine' code_defS ?k1 ?k2 ?k3 ?k4 ?k5 ?XB ?TB ?D ?T0 ?kA ?k6 ?k7 ?k8 ?k9 ?kB ?_ ?cK ?c2 ?c3 ?c4 ?c5; (case kA => exact rfl); (case k2 => k_asm); (case k1 => k_asm); (case XB => assumption); (case TB => assumption); (case D => assumption); (case T0 => exact KtsTurn.refl); (case k3 => k_asm); (case k4 => k_asm); (case k5 => k_asm); (case k6 => k_is); (case k7 => k_is); (case k8 => ktr_room); (case k9 => exact BindsTo.of_eq rfl); (case kB => exact locs rfl); (case cK => assumption); (case c2 => exact rfl); (case c3 => exact rfl); (case c4 => exact rfl); (case c5 => decide); k_whole; intro g' L' h' FG' F' N' B' X' T' D'; (try dsimp only); (try k_lift B'); (try k_fold))
  k_with "call ref" => (k_here; (with_reducible show wpAny _ _ (call (Value.ref 80) [Value.str _ _, Value.int _ _]) _ _ _); k_dflt (refine' TellX.use (text_tell _ _ _ _ _ ?p1 ?p2 ?p3 _) ?k1 ?k2 ?k3 ?k4 ?k5 ?kK ?kd ?ku ?_ ?_; (case k1 => k_asm); (case k2 => k_asm); (case k3 => k_asm); (case k4 => k_asm); (case k5 => k_asm); (case kK => exact rfl); (case p1 => assumption); (case p2 => assumption); (case p3 => assumption); (case kd => ktr_room); (case ku => ktr_units)); rotate_left; (intro hP9 e8 h8 tk8 g8 tc8 F8 R8 U8; (try dsimp only)); rotate_left; (intro v9 news9 h9 tk9 hR9 F9 N9; (try dsimp only)))
  k_with "noteFrame ref" => (k_here; k_dflt (refine' caughtC ?R ?F ?K ?U ?XB ?TB ?D ?ex ?q ?hm ?_; (case R => assumption); (case F => assumption); (case K => assumption); (case U => assumption); (case XB => assumption); (case TB => assumption); (case D => assumption); (case ex => k_is); (case q => kts_isx); (case hm => rfl); k_whole); intro h' g' tk' o' T' F' N' C' e1' e2' e3' K' X' P' D'; (try k_lift K'))
  k_with "getAttr ref" => (k_here; (with_reducible show wpAny _ _ (getAttr (Value.ref _) (Str.ofString "code") _) _ _ _); k_dflt (refine' get_code ?X ?C ?e1 ?e2 ?e3 ?hh ?_; (case C => assumption); (case X => exact in_of (by with_reducible assumption) (by with_reducible assumption)); (case e1 => assumption); (case e2 => assumption); (case e3 => assumption); (case hh => rfl)); (try dsimp only))
  k_dflt (walk_at "MINE enter")
  k_steps
  · exact hret _ _ _ _ _ (Or.inl (by with_reducible assumption)) KtsTurn.refl (by with_reducible assumption) (by with_reducible assumption) (by with_reducible assumption) (by with_reducible assumption) (by with_reducible assumption) (by with_reducible assumption)
  · rename_i hP9
    exact hret _ _ _ _ _ (Or.inr ⟨(‹_ ∧ pR x.cps.toList d.toNat = none› : _ ∧ _).1, (‹_ ∧ pR x.cps.toList d.toNat = none› : _ ∧ _).2, _, rfl, rfl⟩) (by with_reducible assumption) (by with_reducible assumption) (by with_reducible assumption) (by with_reducible assumption) (by with_reducible assumption) (by with_reducible assumption) (by with_reducible assumption)
end Mine
namespace Mine
theorem figS_len {i : Nat} {x : Str} {n : Int} (h : FigS i x n) : x.length ≤ i := by
  have := h.2.1
  rw [Array.length_toList] at this
  exact this
theorem figS_num {i : Nat} {x : Str} {n : Int} (h : FigS i x n) (hi : i ≤ 7) : 0 ≤ n ∧ n < 10000000 := by
  have h1 := val_bound _ h.1
  have h2 : 10 ^ x.cps.toList.length ≤ 10 ^ 7 := Nat.pow_le_pow_right (by decide) (by have := h.2.1; omega)
  have h3 := h.2.2
  have h4 : (10 : Nat) ^ 7 = 10000000 := by decide
  omega
/-- what the last two statements ask of the text -/
noncomputable def DueOk (x : Str) (d n e0 : Int) (sg xf : Str) : Prop :=
  pAt x.cps.toList = xf.length ∧ xf.length ≤ 100 ∧ (-200000 ≤ e0 ∧ e0 ≤ 200000) ∧
    ((sg == Str.ofString "-") = true → pR x.cps.toList d.toNat = dec (0 - n) (if (if e0 < 9999 then e0 else 9999) > -9999 then if e0 < 9999 then e0 else 9999 else -9999) d.toNat) ∧
    ((sg == Str.ofString "-") = false → pR x.cps.toList d.toNat = dec n (if (if e0 < 9999 then e0 else 9999) > -9999 then if e0 < 9999 then e0 else 9999 else -9999) d.toNat)
/-- what the last four statements ask of the text -/
noncomputable def TextOk (x : Str) (d n e0 hg : Int) (sg xf x1 x2 lt ld xp : Str) : Prop :=
  pN x.cps.toList ≤ 13 ∧ ((x1 ++ x2 == Str.ofString "") = true → pN x.cps.toList = 0) ∧ ((x1 ++ x2 == Str.ofString "") = false → pN x.cps.toList ≠ 0) ∧
    ((x1 ++ x2 == Str.ofString "") = false → (xp != Str.ofString "") = false → DueOk x d n e0 sg xf) ∧ ((x1 ++ x2 == Str.ofString "") = false → (xp != Str.ofString "") = true → (ld == Str.ofString "-") = true → DueOk x d n (e0 + (0 - hg)) sg (xf ++ lt ++ ld ++ xp)) ∧
    ((x1 ++ x2 == Str.ofString "") = false → (xp != Str.ofString "") = true → (ld == Str.ofString "-") = false → DueOk x d n (e0 + hg) sg (xf ++ lt ++ ld ++ xp))
theorem str_len (a b : Str) : (a ++ b).length = a.length + b.length := by
  show (a.cps ++ b.cps).size = a.cps.size + b.cps.size
  simp
theorem len_app {a b : Str} {i j : Nat} (h : a.length ≤ i) (h' : b.length ≤ j) : (a ++ b).length ≤ i + j := by rw [str_len]; exact Nat.add_le_add h h'
theorem len_void : (Str.ofString "").length ≤ 0 := by decide +kernel
theorem fits1 {a b : Str} {i j : Nat} (h : a.length ≤ i) (h' : b.length ≤ j) (hk : i + j ≤ 1000) : a.length + b.length ≤ sizeLine := by rw [PySem.sizeLine_eq]; omega
theorem fits2 {a b : Str} {i j : Nat} (h : a.length ≤ i) (h' : b.length ≤ j) (hk : i + j ≤ 1000) : (a ++ b).length ≤ sizeLine := by rw [str_len]; exact fits1 h h' hk
end Mine
namespace Mine
noncomputable def RCase (w : World) (b cells : Addr) (vs : List Value) (p : Int) (news : List (Addr × Obj)) (v : Value) (news' : List (Addr × Obj)) : Prop :=
  ∃ p' tp' ob', v = .bool true ∧ p ≤ p' ∧ p' ≤ p + 30 ∧ Obj.IsDictOf (PySem.strKind theProg w) ob' [(Str.ofString "cells", .ref cells), (Str.ofString "place", .int p' tp')] ∧ news' = (b, ob') :: (cells, LCg.lst vs) :: news
theorem drop_third {h₀ h : Heap} {L : Addr} {x b c : Addr × Obj} {r : List (Addr × Obj)} (N : News h₀ L h (b :: c :: x :: r)) : News h₀ L h (b :: c :: r) := fun p hp => N p (by simp only [List.mem_cons] at hp ⊢; rcases hp with h | h | h <;> simp [h])
theorem pickL {h₀ h : Heap} {L l b c : Addr} {a : Array Value} {n : Nat} {ob oc : Obj} {big news : List (Addr × Obj)} (N : News h₀ L h ((l, W.listOf a n) :: big)) (_ : ∀ q ∈ news, q.1 ≠ b) (h1 : (b, ob) ∈ big) (h2 : (c, oc) ∈ big) (h3 : ∀ p ∈ news, p ∈ big) : News h₀ L h ((b, ob) :: (c, oc) :: (l, W.listOf a n) :: news) := fun p hp => N p (by
  rcases List.mem_cons.mp hp with rfl | hp
  · exact .tail _ h1
  rcases List.mem_cons.mp hp with rfl | hp
  · exact .tail _ h2
  rcases List.mem_cons.mp hp with rfl | hp
  · exact .head _
  · exact .tail _ (h3 p hp))
theorem pick0 {h₀ h : Heap} {L b c : Addr} {ob oc : Obj} {big news : List (Addr × Obj)} (N : News h₀ L h big) (h1 : (b, ob) ∈ big) (h2 : (c, oc) ∈ big) (h3 : ∀ p ∈ news, p ∈ big) : News h₀ L h ((b, ob) :: (c, oc) :: news) := fun p hp => N p (by
  rcases List.mem_cons.mp hp with rfl | hp
  · exact h1
  rcases List.mem_cons.mp hp with rfl | hp
  · exact h2
  · exact h3 p hp)
theorem pickS {M : Program} {w : World} {A : Around} {E : Value → Shared → Prop} {s : Shared} {value slice : PySem.Expr} {g : Heap} {L l : Addr} {vs : List Value} {ys : List Str} {n : Nat} {k : Int} {u : Tok} {b c : Addr × Obj} {r : List (Addr × Obj)} {Q : Value → Shared → Prop}
    (N : News g L s.heap (b :: c :: (l, W.listOf vs.toArray n) :: r)) (hi : StrsAre vs ys) (h0 : 0 ≤ k) (hk : k < ys.length) (hfit : k < 2 ^ 63) (h : ∀ y t, y ∈ ys → Q (.str y t) s)
    (hs : subscripted slice false (.ref l) (.int k u) = operate [.ref l, .int k u] (getItem (.ref l) (.int k u)) := by with_unfolding_all rfl) :
    wpAny (model M w) A (subscriptTail value slice (.ref l) (.int k u)) Q E s := by
  have hl : s.heap.IsList l vs.toArray := ⟨_, (N _ (.tail _ (.tail _ (.head _)))).1, rfl, n, rfl⟩
  refine item_strsR hl hi h0 hk hfit (fun t => h _ _ ?_) hs
  have hlt : k.toNat < ys.length := by omega
  have e : ys.getD k.toNat Str.empty = ys[k.toNat] := by simp [List.getD, hlt]
  rw [e]
  exact List.getElem_mem hlt
theorem hb_cons {x : Addr × Obj} {b : Addr} {r : List (Addr × Obj)} (h : x.1 ≠ b) (hr : ∀ q ∈ r, q.1 ≠ b) : ∀ q ∈ x :: r, q.1 ≠ b := fun q hq => by
  rcases List.mem_cons.mp hq with rfl | hq
  · exact h
  · exact hr q hq
noncomputable def bodyOf (o : Option Obj) : List Stmt := match o with
  | some o => (match o.data with | .func fd => (match fd.body with | .stmts b => b | _ => []) | _ => [])
  | none => []
noncomputable def caseBody (P : Params) : List Stmt := bodyOf ((Mine.hd.heap_39 P).lookup 122)
noncomputable def scopeOf' (o : Option Obj) : Scope := match o with
  | some o => (match o.data with | .func fd => fd.scope | _ => default)
  | none => default
noncomputable def caseScope (P : Params) : Scope := scopeOf' ((Mine.hd.heap_39 P).lookup 122)
theorem body_at {P : Params} {o : Obj} (h : (Mine.hd.heap_39 P).lookup 122 = some o) : caseBody P = bodyOf (some o) := by unfold caseBody; rw [h]
theorem scope_at {P : Params} {o : Obj} (h : (Mine.hd.heap_39 P).lookup 122 = some o) : caseScope P = scopeOf' (some o) := by unfold caseScope; rw [h]
/-- what is left of the body from a statement on, over a frame that holds m -/
noncomputable def Rest (w : World) (k : Nat) (n : Nat) (m : Str → Option Value) (news : List (Addr × Obj)) (R : Value → List (Addr × Obj) → Prop) : Prop :=
  ∀ (loose : List Str) (mean : ExcName → Option Value) (mg mb : Str → Option Value)
    (dp un : Nat) (gd : Option (List Code)) (cn : Str) (cs : Scope) (L a : Addr) (ccd : Value) (outer : List Env) (base g : Heap) (L' : Addr) (s : Shared) (Q : Flow → Shared → Prop) (E : Value → Shared → Prop),
    Below (ktrTop dp un gd cn cs L a ccd [] outer) base (envOf cn cs L a ccd :: outer) g → Fr g L' s.heap m → (Mine.hd.heap_39 w.params).In g → News g L' s.heap news → Top Mine.hd.view_39 loose mean mg mb g →
    (Mine.hd.heap_39 w.params).In base → Top Mine.hd.view_39 loose mean mg mb base → KtsDicts ((envOf cn cs L a ccd :: outer).filterMap (·.frame)) g → cs.kind = .function →
    dp + k < recursionLimit → un + 8 * k < cLine →
    (∀ v news' h' tk' g' m', R v news' → KtsTurn ((envOf cn cs L a ccd :: outer).filterMap (·.frame)) g g' → Fr g' L' h' m' → News g' L' h' news' → Q (.ret v) { s with heap := h', toks := tk' }) →
      wpAny (model theProg w) ((ktrTop dp un gd cn cs L a ccd [] outer).deeper (envOf (Str.ofString "_law_case_right") (caseScope w.params) L' 122 (.ref 121))) (execs ((caseBody w.params).drop n) (envOf (Str.ofString "_law_case_right") (caseScope w.params) L' 122 (.ref 121))) Q E s
end Mine
namespace Mine
theorem nought_at (w : World) : ∃ o t1 t2, (Mine.hd.heap_39 w.params).lookup 59 = some o ∧ o.cls = .type "tuple" ∧ (∃ k, o.data = .seq #[.int 0 t1, .int 0 t2] k) := ⟨_, _, _, by k_is, rfl, _, rfl⟩
theorem nought_reads {w : World} {h : Heap} (X : (Mine.hd.heap_39 w.params).In h) : ∃ as, Reads h (.ref 59) (.tuple [.int 0, .int 0]) as := by
  obtain ⟨o, t1, t2, h1, h2, k, h3⟩ := nought_at w
  exact ⟨_, reads_tuple_at (X _ _ h1) h2 h3 (ReadsAll.cons (Reads.int _ _) (ReadsAll.cons (Reads.int _ _) ReadsAll.nil))⟩
theorem clash1 {l : List Nat} (a : pN l = 0) (b : pN l ≠ 0) : False := b a
theorem clash2 {a : Option (Int × Int)} {p : Int × Int} (e : a = some p) (g : a = none) : False := by rw [g] at e; cases e
theorem pair_eq {a : Option (Int × Int)} {x y u v : Int} (e : a = some (x, y)) (g : a = some (u, v)) : x = u ∧ y = v := by
  rw [g] at e
  cases e
  exact ⟨rfl, rfl⟩
noncomputable abbrev DueI := Option (Addr × Int × Int × Tok × Tok)
noncomputable abbrev dueNews (news : List (Addr × Obj)) (i : DueI) : List (Addr × Obj) := match i with
  | none => news
  | some (l, x, y, t1, t2) => (l, { cls := .type "tuple", data := .seq #[.int x t1, .int y t2] }) :: news
noncomputable abbrev dueVal (i : DueI) : Value := match i with
  | none => .none
  | some (l, _) => .ref l
noncomputable abbrev DueIs (r : Option (Int × Int)) (news : List (Addr × Obj)) (i : DueI) : Prop := match i with
  | none => r = none
  | some (l, x, y, _) => r = some (x, y) ∧ AllLt l news
theorem zero_eq {a b : Int} (h1 : a = 0) (h2 : b = 0) : ((0 == a) && ((0 : Int) == b) && true) = true := by subst h1; subst h2; rfl
theorem at_eq {g : Int} {l : List Nat} {k : Nat} (e : g = ((pAt l : Nat) : Int)) (h : pAt l = k) : (g == (k : Int)) = true := by rw [e, h]; simp
set_option maxRecDepth 100000 in
set_option maxHeartbeats 8000000 in
theorem rest_due (w : World) (d n e0 : Int) (td tn te : Tok) (x xf sg : Str) (tx tf tsg : Tok) (hd1 : 1 ≤ d) (hd2 : d ≤ 6) (hn : 0 ≤ n ∧ n < 1000000000000) (he : -200000 ≤ e0 ∧ e0 ≤ 200000)
    (hx : x.length ≤ 100) (hN : pN x.cps.toList ≤ 13) (hN0 : pN x.cps.toList ≠ 0) (hAt : pAt x.cps.toList = xf.length)
    (hxf : xf.length ≤ 100)
    (hRn : (sg == Str.ofString "-") = true → pR x.cps.toList d.toNat = dec (0 - n) (if (if e0 < 9999 then e0 else 9999) > -9999 then if e0 < 9999 then e0 else 9999 else -9999) d.toNat)
    (hRp : (sg == Str.ofString "-") = false → pR x.cps.toList d.toNat = dec n (if (if e0 < 9999 then e0 else 9999) > -9999 then if e0 < 9999 then e0 else 9999 else -9999) d.toNat) (news : List (Addr × Obj)) (m₀ : Str → Option Value) :
    Rest w 26 12 (fun y => if y = Str.ofString "digits" then some (.int d td) else if y = Str.ofString "number" then some (.int n tn) else if y = Str.ofString "sign" then some (.str sg tsg) else if y = Str.ofString "tens" then some (.int e0 te) else if y = Str.ofString "text" then some (.str x tx) else if y = Str.ofString "front" then some (.str xf tf) else m₀ y)
      news (fun v news' => v = .bool true ∧ news' = news) := by
  unfold Rest
  intro loose mean mg mb dp un gd cn cs L a ccd outer base g L' s Q E B F X N T XB TB D hk hd hu hret
  rw [body_at (by k_is), scope_at (by k_is)]
  dsimp only [bodyOf, scopeOf', fnOf, List.drop]
  k_with_none
  k_with "call ref" => (k_here; (with_reducible show wpAny _ _ (call (Value.ref 108) [Value.int _ _, Value.int _ _, Value.int _ _]) _ _ _); k_dflt (refine' TellX.use (near_tell _ _ _ _ _ _ _ ?p1 ?p2 ?p3 ?p4 _) ?k1 ?k2 ?k3 ?k4 ?k5 ?kK ?kd ?ku ?_ (fun h => h.elim); (case k1 => k_asm); (case k2 => k_asm); (case k3 => k_asm); (case k4 => k_asm); (case k5 => k_asm); (case kK => exact rfl); (case p1 => omega); (case p2 => exact figs_bound (by decide) (by omega)); (case p3 => omega); (case p4 => omega); (case kd => ktr_room); (case ku => ktr_units)); intro v9 news9 h9 tk9 hR9 F9 N9; rcases hR9 with ⟨eD9, hv9, hn9⟩ | ⟨l9, x9, y9, t9, t9', eD9, hv9, l9', hn9⟩ <;> subst hv9 hn9 <;> (try simp only [AllLt, and_true] at l9') <;> (try dsimp only))
  k_with "call ref" => (k_here; (with_reducible show wpAny _ _ (call (Value.ref 115) [Value.str _ _, Value.int _ _]) _ _ _); k_dflt (refine' TellS.use (heard_tell _ _ _ _ _ ?p1 ?p2 ?p3 _) ?k1 ?k2 ?k3 ?k4 ?k5 ?k6 ?k7 ?k8 ?kK ?kd ?ku ?_; (case k1 => k_asm); (case k2 => k_asm); (case k3 => k_asm); (case k4 => k_asm); (case k5 => k_asm); (case k6 => assumption); (case k7 => assumption); (case k8 => assumption); (case kK => exact rfl); (case p1 => omega); (case p2 => assumption); (case p3 => assumption); (case kd => ktr_room); (case ku => ktr_units)); intro v9 news9 h9 tk9 g9 hR9 T9 F9 N9 B9 X9 P9 D9; rcases hR9 with (⟨z9, hv9, hn9⟩ | ⟨z9, q9, y1, y2, g1, tg9, e9, hv9, l9', eg9, (⟨q1, s1, s2, lq9, l9'', hn9⟩ | ⟨ey1, ey2, hn9⟩)⟩) | ⟨z9, e9, s9, hv9, hn9⟩ <;> subst hv9 hn9 <;> (first | exact (clash1 (by with_reducible assumption) (by with_reducible assumption)).elim | exact (clash2 (by with_reducible assumption) (by with_reducible assumption)).elim | ((obtain ⟨ea9, eb9⟩ := pair_eq (by with_reducible assumption) dP); subst ea9; subst eb9; (try simp only [AllLt, and_true] at l9'); (try dsimp only)) | (try dsimp only)))
  k_with "compareOp Eq ref ref" => (k_here; (with_reducible show wpAny _ _ (compareOp CmpOp.Eq (Value.ref _) (Value.ref _)) _ _ _); (obtain ⟨as9, rd9⟩ := nought_reads (in_of (by with_reducible assumption) (by with_reducible assumption))); k_dflt (refine eq_dataH (reads_tuple_at (News.get (by k_asm) (by k_mem)) rfl rfl (ReadsAll.cons rd9 (ReadsAll.cons (Reads.int _ _) ReadsAll.nil))) (by ked_read) (by ked_shaped) (by ked_shaped) (by ke_room) ?_); ked_norm)
  rename Fr _ _ _ _ => F1
  repeat' ((fail_if_success (with_reducible show wpAny _ _ (exec (Stmt.Assign _ _ _) _) _ _ _)); walk1)
  refine join_execV (ι := DueI) F1 (dueNews news) (fun i m' y => if y = Str.ofString "digits" then some (.int d td) else if y = Str.ofString "text" then some (.str x tx) else if y = Str.ofString "front" then some (.str xf tf) else if y = Str.ofString "due" then some (dueVal i) else m' y) (DueIs (pR x.cps.toList d.toNat) news) ?_ ?_
  · k_steps
    all_goals first
      | exact JoinedV.intro none (Fr.sees [(Str.ofString "digits", _), (Str.ofString "text", _), (Str.ofString "front", _), (Str.ofString "due", _)] (by with_reducible assumption) (by repeat (first | exact trivial | refine And.intro rfl ?_))) (by with_reducible assumption) ((hRn (by with_reducible assumption)).trans (by with_reducible assumption))
      | exact JoinedV.intro none (Fr.sees [(Str.ofString "digits", _), (Str.ofString "text", _), (Str.ofString "front", _), (Str.ofString "due", _)] (by with_reducible assumption) (by repeat (first | exact trivial | refine And.intro rfl ?_))) (by with_reducible assumption) ((hRp (by with_reducible assumption)).trans (by with_reducible assumption))
      | exact JoinedV.intro (some (_, _, _, _, _)) (Fr.sees [(Str.ofString "digits", _), (Str.ofString "text", _), (Str.ofString "front", _), (Str.ofString "due", _)] (by with_reducible assumption) (by repeat (first | exact trivial | refine And.intro rfl ?_))) (by with_reducible assumption) ⟨(hRn (by with_reducible assumption)).trans (by with_reducible assumption), by assumption⟩
      | exact JoinedV.intro (some (_, _, _, _, _)) (Fr.sees [(Str.ofString "digits", _), (Str.ofString "text", _), (Str.ofString "front", _), (Str.ofString "due", _)] (by with_reducible assumption) (by repeat (first | exact trivial | refine And.intro rfl ?_))) (by with_reducible assumption) ⟨(hRp (by with_reducible assumption)).trans (by with_reducible assumption), by assumption⟩
      | trace_state
  clear F1
  rintro (_ | ⟨l, x', y', t1, t2⟩) mA hA tkA FA NA dP
  · dsimp only [dueNews, dueVal, DueIs] at FA NA dP ⊢
    k_steps
    all_goals exact hret _ _ _ _ _ _ ⟨rfl, rfl⟩ ‹KtsTurn _ _ _› (by with_reducible assumption) (news_sub (by with_reducible assumption) (by repeat (first | exact sub_refl | refine sub_tail ?_)))
  · dsimp only [dueNews, dueVal, DueIs] at FA NA dP ⊢
    obtain ⟨dP, lAll⟩ := dP
    k_steps
    all_goals try (rw [at_eq (by with_reducible assumption) hAt])
    all_goals try (rw [zero_eq (by with_reducible assumption) (by with_reducible assumption)])
    all_goals exact hret _ _ _ _ _ _ ⟨rfl, rfl⟩ ‹KtsTurn _ _ _› (by with_reducible assumption) (news_sub (by with_reducible assumption) (by repeat (first | exact sub_refl | refine sub_tail ?_)))
end Mine
namespace Mine
theorem clashA {c : Bool} {l : List Nat} (hc : c = true) (h : c = true → pN l = 0) (z : pN l ≠ 0) : False := z (h hc)
set_option maxRecDepth 100000 in
set_option maxHeartbeats 8000000 in
theorem rest_ifs (w : World) (d n e0 hg : Int) (td tn te thg : Tok) (x xf sg x1 x2 lt ld xp : Str) (tx tf tsg t1 t2 tlt tld txp : Tok) (hd1 : 1 ≤ d) (hd2 : d ≤ 6) (hn : 0 ≤ n ∧ n < 1000000000000) (he : -100 ≤ e0 ∧ e0 ≤ 100) (hhg : 0 ≤ hg ∧ hg ≤ 99999)
    (hx : x.length ≤ 100) (hN : pN x.cps.toList ≤ 13) (l1 : x1.length ≤ 7) (l2 : x2.length ≤ 5) (l3 : lt.length ≤ 1) (l4 : ld.length ≤ 1) (l5 : xp.length ≤ 5) (l6 : xf.length ≤ 30)
    (hA : (x1 ++ x2 == Str.ofString "") = true → pN x.cps.toList = 0) (hB : (x1 ++ x2 == Str.ofString "") = false → pN x.cps.toList ≠ 0)
    (hC : (x1 ++ x2 == Str.ofString "") = false → (xp != Str.ofString "") = false → DueOk x d n e0 sg xf) (hDn : (x1 ++ x2 == Str.ofString "") = false → (xp != Str.ofString "") = true → (ld == Str.ofString "-") = true → DueOk x d n (e0 + (0 - hg)) sg (xf ++ lt ++ ld ++ xp)) (hDp : (x1 ++ x2 == Str.ofString "") = false → (xp != Str.ofString "") = true → (ld == Str.ofString "-") = false → DueOk x d n (e0 + hg) sg (xf ++ lt ++ ld ++ xp))
    (news : List (Addr × Obj)) (m₀ : Str → Option Value) :
    Rest w 27 10 (fun y => if y = Str.ofString "digits" then some (.int d td) else if y = Str.ofString "number" then some (.int n tn) else if y = Str.ofString "sign" then some (.str sg tsg) else if y = Str.ofString "tens" then some (.int e0 te) else if y = Str.ofString "text" then some (.str x tx) else if y = Str.ofString "front" then some (.str xf tf)
      else if y = Str.ofString "ahead" then some (.str x1 t1) else if y = Str.ofString "behind" then some (.str x2 t2) else if y = Str.ofString "letter" then some (.str lt tlt) else if y = Str.ofString "lead" then some (.str ld tld) else if y = Str.ofString "power" then some (.str xp txp) else if y = Str.ofString "height" then some (.int hg thg) else m₀ y)
      news (fun v news' => v = .bool true ∧ news' = news) := by
  unfold Rest
  intro loose mean mg mb dp un gd cn cs L a ccd outer base g L' s Q E B F X N T XB TB D hk hd hu hret
  rw [body_at (by k_is), scope_at (by k_is)]
  dsimp only [bodyOf, scopeOf', fnOf, List.drop]
  k_with_none
  k_with "binaryOp Add str str" => (k_here; (with_reducible show wpAny _ _ (binaryOp Operator.Add (Value.str _ _) (Value.str _ _)) _ _ _); (refine SBL.add ?_ ?z); (case z => rw [PySem.sizeLine_eq]; omega); intro t' k'; (try dsimp only))
  k_with "call ref" => (k_here; (with_reducible show wpAny _ _ (call (Value.ref 115) [Value.str _ _, Value.int _ _]) _ _ _); k_dflt (refine' TellS.use (heard_tell _ _ _ _ _ ?p1 ?p2 ?p3 _) ?k1 ?k2 ?k3 ?k4 ?k5 ?k6 ?k7 ?k8 ?kK ?kd ?ku ?_; (case k1 => k_asm); (case k2 => k_asm); (case k3 => k_asm); (case k4 => k_asm); (case k5 => k_asm); (case k6 => assumption); (case k7 => assumption); (case k8 => assumption); (case kK => exact rfl); (case p1 => omega); (case p2 => assumption); (case p3 => assumption); (case kd => ktr_room); (case ku => ktr_units)); intro v9 news9 h9 tk9 g9 hR9 T9 F9 N9 B9 X9 P9 D9; rcases hR9 with (⟨z9, hv9, hn9⟩ | ⟨z9, q9, y1, y2, g1, tg9, e9, hv9, l9', eg9, hn9⟩) | ⟨z9, e9, s9, hv9, hn9⟩ <;> subst hv9 <;> (try dsimp only))
  k_with "MINE to due" => (repeat' ((fail_if_success (with_reducible show wpAny _ _ (execs [Stmt.Assign [PySem.Expr.Name (Str.ofString "due") _] _ _, _] _) _ _ _)); walk1))
  walk_at "MINE to due"
  all_goals first
    | (exfalso; exact clashA (by with_reducible assumption) (by with_reducible assumption) (by with_reducible assumption))
    | exact hret _ _ _ _ _ _ ⟨rfl, by with_reducible assumption⟩ ‹KtsTurn _ _ _› (by with_reducible assumption) (by with_reducible assumption)
    | (have K5 := (by first | exact hC (by with_reducible assumption) (by with_reducible assumption) | exact hDn (by with_reducible assumption) (by with_reducible assumption) (by with_reducible assumption) | exact hDp (by with_reducible assumption) (by with_reducible assumption) (by with_reducible assumption) : DueOk x d n _ sg _)
       obtain ⟨o1, o2, o3, o4, o5⟩ := K5
       exact rest_due w d n _ td tn _ x _ sg tx _ tsg hd1 hd2 hn o3 hx hN (hB (by with_reducible assumption)) o1 o2 o4 o5 news _ _ _ _ _ _ _ _ _ _ _ _ _ _ _ _ _ _ _ _ B (Fr.sees [(Str.ofString "digits", _), (Str.ofString "number", _), (Str.ofString "sign", _), (Str.ofString "tens", _), (Str.ofString "text", _), (Str.ofString "front", _)] (by with_reducible assumption) (by repeat (first | exact trivial | refine And.intro rfl ?_))) X (news_sub (by with_reducible assumption) (by repeat (first | exact sub_refl | refine sub_tail ?_))) T XB TB D hk (by omega) (by omega) hret)
end Mine
namespace Mine
set_option maxRecDepth 100000 in
set_option maxHeartbeats 8000000 in
theorem rest_front (w : World) (d n e0 hg : Int) (td tn te thg : Tok) (xb sg x1 pt x2 lt ld xp tl : Str) (txb tsg t1 tpt t2 tlt tld txp ttl : Tok) (hd1 : 1 ≤ d) (hd2 : d ≤ 6) (hn : 0 ≤ n ∧ n < 1000000000000) (he : -100 ≤ e0 ∧ e0 ≤ 100) (hhg : 0 ≤ hg ∧ hg ≤ 99999)
    (l0 : xb.length ≤ 2) (l9 : sg.length ≤ 1) (l1 : x1.length ≤ 7) (l8 : pt.length ≤ 1) (l2 : x2.length ≤ 5) (l3 : lt.length ≤ 1) (l4 : ld.length ≤ 1) (l5 : xp.length ≤ 5) (l7 : tl.length ≤ 2)
    (hT : (lt != Str.ofString "") = true → TextOk (xb ++ sg ++ x1 ++ pt ++ x2 ++ (lt ++ ld ++ xp) ++ tl) d n e0 hg sg (xb ++ sg ++ x1 ++ pt ++ x2) x1 x2 lt ld xp)
    (hF : (lt != Str.ofString "") = false → TextOk (xb ++ sg ++ x1 ++ pt ++ x2 ++ Str.ofString "" ++ tl) d n e0 hg sg (xb ++ sg ++ x1 ++ pt ++ x2) x1 x2 lt ld xp)
    (news : List (Addr × Obj)) (m₀ : Str → Option Value) :
    Rest w 28 8 (fun y => if y = Str.ofString "digits" then some (.int d td) else if y = Str.ofString "number" then some (.int n tn) else if y = Str.ofString "sign" then some (.str sg tsg) else if y = Str.ofString "tens" then some (.int e0 te) else if y = Str.ofString "ahead" then some (.str x1 t1) else if y = Str.ofString "behind" then some (.str x2 t2) else if y = Str.ofString "letter" then some (.str lt tlt) else if y = Str.ofString "lead" then some (.str ld tld) else if y = Str.ofString "power" then some (.str xp txp) else if y = Str.ofString "height" then some (.int hg thg) else if y = Str.ofString "blanks" then some (.str xb txb) else if y = Str.ofString "point" then some (.str pt tpt) else if y = Str.ofString "tail" then some (.str tl ttl) else m₀ y) news (fun v news' => v = .bool true ∧ news' = news) := by
  unfold Rest
  intro loose mean mg mb dp un gd cn cs L a ccd outer base g L' s Q E B F X N T XB TB D hk hd hu hret
  rw [body_at (by k_is), scope_at (by k_is)]
  dsimp only [bodyOf, scopeOf', fnOf, List.drop]
  k_with_none
  k_with "binaryOp Add str str" => (k_here; (with_reducible show wpAny _ _ (binaryOp Operator.Add (Value.str _ _) (Value.str _ _)) _ _ _); (refine SBL.add ?_ ?z); (case z => first | exact fits1 (by repeat (first | with_reducible assumption | exact len_void | apply len_app)) (by repeat (first | with_reducible assumption | exact len_void | apply len_app)) (by decide) | exact fits2 (by repeat (first | with_reducible assumption | exact len_void | apply len_app)) (by repeat (first | with_reducible assumption | exact len_void | apply len_app)) (by decide)); intro t' k'; (try dsimp only))
  k_with "MINE to if" => (repeat' ((fail_if_success (with_reducible show wpAny _ _ (execs [Stmt.If _ _ _ _, _, _, _] _) _ _ _)); walk1))
  walk_at "MINE to if"
  all_goals (have K5 := (by first | exact hT (by with_reducible assumption) | exact hF (by with_reducible assumption) : TextOk _ d n e0 hg sg _ x1 x2 lt ld xp))
  all_goals (obtain ⟨o1, o2, o3, o4, o5, o6⟩ := K5)
  all_goals exact rest_ifs w d n e0 hg td tn te thg _ _ sg x1 x2 lt ld xp _ _ tsg t1 t2 tlt tld txp hd1 hd2 hn he hhg (Nat.le_trans (by repeat (first | with_reducible assumption | exact len_void | apply len_app)) (by decide)) o1 l1 l2 l3 l4 l5 (Nat.le_trans (by repeat (first | with_reducible assumption | exact len_void | apply len_app)) (by decide)) o2 o3 o4 o5 o6 news _ _ _ _ _ _ _ _ _ _ _ _ _ _ _ _ _ _ _ _ B (Fr.sees [(Str.ofString "digits", _), (Str.ofString "number", _), (Str.ofString "sign", _), (Str.ofString "tens", _), (Str.ofString "text", _), (Str.ofString "front", _), (Str.ofString "ahead", _), (Str.ofString "behind", _), (Str.ofString "letter", _), (Str.ofString "lead", _), (Str.ofString "power", _), (Str.ofString "height", _)] ((by with_reducible assumption)) (by repeat (first | exact trivial | refine And.intro rfl ?_))) X (news_sub (by with_reducible assumption) (by repeat (first | exact sub_refl | refine sub_tail ?_))) T XB TB D hk (by omega) (by omega) hret
end Mine
namespace Mine
theorem dec_low {c e e' : Int} {d : Nat} (hd : 1 ≤ d) (hf : figs c.natAbs ≤ 13) (h : e ≤ -1000) (h' : e' ≤ -1000) : dec c e d = dec c e' d := by
  by_cases hc : c = 0
  · rw [hc, dec_zero, dec_zero]
  · have e1 := told_low (d := (d : Int)) (e := e) (by omega) rfl hc (by omega)
    have e2 := told_low (d := (d : Int)) (e := e') (by omega) rfl hc (by omega)
    rw [Int.toNat_natCast] at e1 e2
    rw [e1, e2]
theorem dec_high {c e e' : Int} {d : Nat} (hd : 1 ≤ d) (h : 1000 ≤ e) (h' : 1000 ≤ e') : dec c e d = dec c e' d := by
  by_cases hc : c = 0
  · rw [hc, dec_zero, dec_zero]
  · have hp := figs_pos c.natAbs
    have e1 := told_high (d := (d : Int)) (e := e) (by omega) rfl hc (by omega)
    have e2 := told_high (d := (d : Int)) (e := e') (by omega) rfl hc (by omega)
    rw [Int.toNat_natCast] at e1 e2
    rw [e1, e2]
noncomputable abbrev clamp (e0 : Int) : Int := if (if e0 < 9999 then e0 else 9999) > -9999 then if e0 < 9999 then e0 else 9999 else -9999
theorem clamp_is (e0 : Int) : clamp e0 = e0 ∨ (clamp e0 = 9999 ∧ 9999 ≤ e0) ∨ (clamp e0 = -9999 ∧ e0 ≤ -9999) := by
  unfold clamp
  by_cases h1 : e0 < 9999
  · rw [if_pos h1]
    by_cases h2 : e0 > -9999
    · rw [if_pos h2]; exact .inl rfl
    · rw [if_neg h2]; exact .inr (.inr ⟨rfl, by omega⟩)
  · rw [if_neg h1, if_pos (by decide)]
    exact .inr (.inl ⟨rfl, by omega⟩)
theorem dec_clamp {c e e0 : Int} {d : Nat} (hd : 1 ≤ d) (hf : figs c.natAbs ≤ 13) (h : e = e0 ∨ (e ≤ -1000 ∧ e0 ≤ -1000) ∨ (1000 ≤ e ∧ 1000 ≤ e0)) : dec c e d = dec c (clamp e0) d := by
  have k := clamp_is e0
  rcases h with h | h | h <;> rcases k with k | k | k
  · rw [h, k]
  · exact dec_high hd (by omega) (by omega)
  · exact dec_low hd hf (by omega) (by omega)
  · exact dec_low hd hf (by omega) (by omega)
  · omega
  · exact dec_low hd hf (by omega) (by omega)
  · exact dec_high hd (by omega) (by omega)
  · exact dec_high hd (by omega) (by omega)
  · omega
end Mine
namespace Mine
/-- the shape of the codes: blanks, sign, figures, point, figures, and what follows -/
structure Shape (B S A P D Z : List Nat) : Prop where
  b : ∀ c ∈ B, isBlank c = true
  s : S = [] ∨ S = [45] ∨ S = [43]
  a : ∀ c ∈ A, isDig c = true
  p : P = [] ∨ P = [46]
  d : ∀ c ∈ D, isDig c = true
  pd : P = [] → D = []
  z : ∀ c r, Z = c :: r → isDig c = false ∧ c ≠ 46
theorem dig_not_blank {c : Nat} (h : isDig c = true) : isBlank c = false := by
  simp [isDig, isBlank] at h ⊢; omega
theorem dig_range {c : Nat} (h : isDig c = true) : 48 ≤ c ∧ c ≤ 57 := by simpa [isDig] using h
section
variable {B S A P D Z : List Nat}
theorem shape_pB (h : Shape B S A P D Z) (hn : A ++ D ≠ []) : pB (B ++ (S ++ (A ++ (P ++ (D ++ Z))))) = B.length := by
  unfold pB
  rw [takeWhile_split h.b]
  intro c r hc
  rcases h.s with e | e | e <;> subst e
  · cases hA : A with
    | nil =>
      subst hA
      rcases h.p with e | e <;> subst e
      · rw [h.pd rfl] at hn; exact absurd rfl hn
      · simp at hc; rw [← hc.1]; rfl
    | cons x t =>
      subst hA
      simp at hc
      rw [← hc.1]
      exact dig_not_blank (h.a x (.head _))
  · simp at hc; rw [← hc.1]; rfl
  · simp at hc; rw [← hc.1]; rfl
theorem shape_p1 (h : Shape B S A P D Z) (hn : A ++ D ≠ []) : p1 (B ++ (S ++ (A ++ (P ++ (D ++ Z))))) = S ++ (A ++ (P ++ (D ++ Z))) := by
  unfold p1
  rw [shape_pB h hn]
  simp
theorem shape_sign (h : Shape B S A P D Z) (hn : A ++ D ≠ []) : (signOf (S ++ (A ++ (P ++ (D ++ Z))))).2 = S.length ∧ ((S ++ (A ++ (P ++ (D ++ Z)))).head? = some 45 ↔ S = [45]) := by
  rcases h.s with e | e | e <;> subst e
  · have hh : ∀ c r, A ++ (P ++ (D ++ Z)) = c :: r → c ≠ 45 ∧ c ≠ 43 := by
      intro c r hc
      cases hA : A with
      | nil =>
        subst hA
        rcases h.p with e | e <;> subst e
        · rw [h.pd rfl] at hn; exact absurd rfl hn
        · simp at hc; rw [← hc.1]; exact ⟨by decide, by decide⟩
      | cons x t =>
        subst hA
        simp at hc
        have := dig_range (h.a x (.head _))
        rw [← hc.1]
        exact ⟨by omega, by omega⟩
    cases hl : A ++ (P ++ (D ++ Z)) with
    | nil => simp [hl, signOf]
    | cons c r =>
      have := hh c r hl
      simp [hl, signOf, this.1, this.2]
  · simp [signOf]
  · simp [signOf]
theorem shape_all (h : Shape B S A P D Z) (hn : A ++ D ≠ []) :
    pA (B ++ (S ++ (A ++ (P ++ (D ++ Z))))) = A ∧ pD (B ++ (S ++ (A ++ (P ++ (D ++ Z))))) = D ∧ p4 (B ++ (S ++ (A ++ (P ++ (D ++ Z))))) = Z ∧
    pB (B ++ (S ++ (A ++ (P ++ (D ++ Z))))) = B.length ∧ pS (B ++ (S ++ (A ++ (P ++ (D ++ Z))))) = S.length ∧ pK (B ++ (S ++ (A ++ (P ++ (D ++ Z))))) = P.length + D.length := by
  have e1 := shape_p1 h hn
  have e2 := shape_sign h hn
  have e3 : pS (B ++ (S ++ (A ++ (P ++ (D ++ Z))))) = S.length := by unfold pS; rw [e1]; exact e2.1
  have e4 : p2 (B ++ (S ++ (A ++ (P ++ (D ++ Z))))) = A ++ (P ++ (D ++ Z)) := by unfold p2; rw [e1, e3]; simp
  have hq : ∀ c r, P ++ (D ++ Z) = c :: r → isDig c = false := by
    intro c r hc
    rcases h.p with e | e
    · have := h.pd e
      subst e this
      exact (h.z c r hc).1
    · subst e
      simp at hc
      rw [← hc.1]; rfl
  have e5 : pA (B ++ (S ++ (A ++ (P ++ (D ++ Z))))) = A := by unfold pA; rw [e4]; exact digs_split rfl h.a hq
  have e6 : p3 (B ++ (S ++ (A ++ (P ++ (D ++ Z))))) = P ++ (D ++ Z) := by unfold p3; rw [e4, e5]; simp
  have hz : ∀ c r, Z = c :: r → isDig c = false := fun c r hc => (h.z c r hc).1
  have e7 : pP (B ++ (S ++ (A ++ (P ++ (D ++ Z))))) = decide (P = [46]) := by
    unfold pP
    rw [e6]
    rcases h.p with e | e
    · have := h.pd e
      subst e this
      cases hZ : Z with
      | nil => rfl
      | cons c r =>
        have := (h.z c r hZ).2
        simp [this]
    · subst e; simp
  have e8 : pD (B ++ (S ++ (A ++ (P ++ (D ++ Z))))) = D := by
    unfold pD
    rw [e7, e6]
    rcases h.p with e | e
    · rw [h.pd e, e]; rfl
    · subst e
      simp only [decide_true, if_true]
      exact digs_split (by simp) h.d hz
  have e9 : pN (B ++ (S ++ (A ++ (P ++ (D ++ Z))))) = A.length + D.length := by unfold pN; rw [e5, e8]
  have e10 : pK (B ++ (S ++ (A ++ (P ++ (D ++ Z))))) = P.length + D.length := by
    unfold pK
    rw [e7, e8, e9]
    have hpos : 0 < A.length + D.length := by
      rw [← List.length_append]
      exact List.length_pos_iff.mpr hn
    rcases h.p with e | e
    · rw [h.pd e, e]; rfl
    · subst e
      simp [hpos]
  refine ⟨e5, e8, ?_, shape_pB h hn, e3, e10⟩
  unfold p4
  rw [e6, e10, ← List.length_append, ← List.append_assoc]
  simp
end
end Mine
namespace Mine
theorem cps_app (a b : Str) : (a ++ b).cps.toList = a.cps.toList ++ b.cps.toList := by
  show (a.cps ++ b.cps).toList = _
  simp
noncomputable abbrev TailOk (T : List Nat) : Prop := T = [] ∨ T = [32, 88] ∨ T = [88] ∨ T = [44]
noncomputable abbrev SignOk (S : List Nat) : Prop := S = [] ∨ S = [45] ∨ S = [43]
theorem expo_tail {T : List Nat} (h : TailOk T) : expo T = (0, 0) := by
  rcases h with rfl | rfl | rfl | rfl <;> rfl
theorem tail_head {T : List Nat} (h : TailOk T) {c : Nat} {r : List Nat} (e : T = c :: r) : isDig c = false ∧ c ≠ 46 ∧ c ≠ 45 ∧ c ≠ 43 := by
  rcases h with h | h | h | h <;> rw [h] at e <;> cases e <;> exact ⟨rfl, by decide, by decide, by decide⟩
theorem expo_some {c : Nat} {S X T : List Nat} (hc : isE c = true) (hs : SignOk S) (hX : ∀ c ∈ X, isDig c = true) (hT : TailOk T) :
    (X = [] → expo (c :: (S ++ (X ++ T))) = (0, 0)) ∧ (X ≠ [] → expo (c :: (S ++ (X ++ T))) = ((if S = [45] then -1 else 1) * min (val X) 9999, 1 + S.length + X.length)) := by
  have e1 : signOf (S ++ (X ++ T)) = (if S = [45] then -1 else 1, S.length) := by
    rcases hs with e | e | e <;> subst e
    · have hh : ∀ c r, X ++ T = c :: r → c ≠ 45 ∧ c ≠ 43 := by
        intro c r h
        cases X with
        | nil => exact (tail_head hT h).2.2
        | cons x t =>
          have := dig_range (hX x (.head _))
          simp at h
          omega
      rw [List.nil_append, if_neg (by decide)]
      cases q : X ++ T with
      | nil => rfl
      | cons c r =>
        have := hh c r q
        simp [signOf, this.1, this.2]
    · simp [signOf]
    · simp [signOf]
  have e2 : digs (X ++ T) = X := digs_split rfl hX fun c r h => (tail_head hT h).1
  have e3 : (S ++ (X ++ T)).drop S.length = X ++ T := by simp
  have e4 : expo (c :: (S ++ (X ++ T))) = if X = [] then (0, 0) else ((if S = [45] then -1 else 1) * min (val X) 9999, 1 + S.length + X.length) := by
    simp only [expo, hc, if_true, e1, e3, e2]
  exact ⟨fun h => by rw [e4, if_pos h], fun h => by rw [e4, if_neg h]⟩
section
variable {B S A P D Z : List Nat}
theorem shape_law (h : Shape B S A P D Z) (hn : A ++ D ≠ []) (d : Nat) :
    pN (B ++ (S ++ (A ++ (P ++ (D ++ Z))))) = A.length + D.length ∧
    pAt (B ++ (S ++ (A ++ (P ++ (D ++ Z))))) = B.length + S.length + A.length + (P.length + D.length) + (expo Z).2 ∧
    pR (B ++ (S ++ (A ++ (P ++ (D ++ Z))))) d = dec (if S = [45] then 0 - (val A * 10 ^ D.length + val D) else val A * 10 ^ D.length + val D) ((expo Z).1 - D.length) d := by
  obtain ⟨e1, e2, e3, e4, e5, e6⟩ := shape_all h hn
  refine ⟨by unfold pN; rw [e1, e2], by unfold pAt pE; rw [e1, e3, e4, e5, e6], ?_⟩
  unfold pR pC pF pE
  rw [e1, e2, e3, shape_p1 h hn]
  have e7 := (shape_sign h hn).2
  by_cases q : S = [45]
  · rw [if_pos (e7.mpr q), if_pos q]
  · rw [if_neg (fun k => q (e7.mp k)), if_neg q]
noncomputable def ZOk (Z : List Nat) : Prop := Z = [32, 88] ∨ ∀ c r, Z = c :: r → isBlank c = false ∧ isDig c = false ∧ c ≠ 46 ∧ c ≠ 45 ∧ c ≠ 43
theorem zok_dig (h : ZOk Z) : ∀ c r, Z = c :: r → isDig c = false ∧ c ≠ 46 := by
  rcases h with h | h
  · rintro c r e
    rw [h] at e
    cases e
    exact ⟨rfl, by decide⟩
  · intro c r e
    have := h c r e
    exact ⟨this.2.1, this.2.2.1⟩
theorem pN_void (hB : ∀ c ∈ B, isBlank c = true) (hS : SignOk S) (hP : P = [] ∨ P = [46]) (hZ : ZOk Z) : pN (B ++ (S ++ (P ++ Z))) = 0 := by
  have main : ∀ l S, p1 l = S ++ (P ++ Z) → SignOk S → (S = [] → P = [] → ∀ c r, Z = c :: r → c ≠ 45 ∧ c ≠ 43) → pN l = 0 := by
    intro l S e1 hS hZ'
    have e2 : pS l = S.length := by
      unfold pS
      rw [e1]
      rcases hS with e | e | e <;> subst e
      · rcases hP with e | e <;> subst e
        · cases q : Z with
          | nil => rfl
          | cons c r =>
            have := hZ' rfl rfl c r q
            simp [signOf, this.1, this.2]
        · simp [signOf]
      · simp [signOf]
      · simp [signOf]
    have e3 : p2 l = P ++ Z := by unfold p2; rw [e1, e2]; simp
    have e4 : pA l = [] := by
      unfold pA
      rw [e3]
      refine digs_split (pre := []) (post := P ++ Z) rfl (by simp) ?_
      intro c r q
      rcases hP with e | e <;> subst e
      · exact (zok_dig hZ c r q).1
      · simp at q; rw [← q.1]; rfl
    have e5 : p3 l = P ++ Z := by unfold p3; rw [e3, e4]; rfl
    have e6 : pD l = [] := by
      unfold pD pP
      rw [e5]
      rcases hP with e | e <;> subst e
      · cases q : Z with
        | nil => rfl
        | cons c r =>
          have := (zok_dig hZ c r q).2
          simp [this]
      · have : digs Z = [] := digs_split (pre := []) (post := Z) rfl (by simp) fun c r q => (zok_dig hZ c r q).1
        simp [this]
    unfold pN
    rw [e4, e6]
    rfl
  by_cases hc : S ++ (P ++ Z) = [32, 88]
  · have e1 : p1 (B ++ (S ++ (P ++ Z))) = [88] := by
      unfold p1 pB
      rw [hc, show B ++ [32, 88] = (B ++ [32]) ++ [88] from by simp, takeWhile_split (pre := B ++ [32]) (post := [88])]
      · simp
      · intro c h
        rcases List.mem_append.mp h with h | h
        · exact hB c h
        · rw [List.mem_singleton.mp h]; rfl
      · rintro c r h
        cases h
        rfl
    unfold pN pD pP p3 pA p2 pS
    rw [e1]
    rfl
  · refine main _ S ?_ hS ?_
    · unfold p1 pB
      rw [takeWhile_split hB]
      · simp
      · intro c r q
        rcases hS with e | e | e <;> subst e
        · rcases hP with e | e <;> subst e
          · rcases hZ with h | h
            · exact absurd h hc
            · exact (h c r q).1
          · simp at q; rw [← q.1]; rfl
        · simp at q; rw [← q.1]; rfl
        · simp at q; rw [← q.1]; rfl
    · rintro rfl rfl c r q
      rcases hZ with h | h
      · exact absurd h hc
      · exact (h c r q).2.2.2
end
end Mine
namespace Mine
theorem em_cps : (Str.ofString "").cps.toList = [] := by decide +kernel
theorem str_nil {x : Str} : (x == Str.ofString "") = true ↔ x.cps.toList = [] := by rw [str_eq, em_cps]
theorem str_nilF {x : Str} : (x == Str.ofString "") = false ↔ x.cps.toList ≠ [] := by
  rw [Ne, ← str_nil]; simp
theorem str_minus {x : Str} : (x == Str.ofString "-") = true ↔ x.cps.toList = [45] := by rw [str_eq, minus_is]
theorem str_minusF {x : Str} : (x == Str.ofString "-") = false ↔ x.cps.toList ≠ [45] := by
  rw [Ne, ← str_minus]; simp
theorem len_cps (x : Str) : x.length = x.cps.toList.length := by
  show x.cps.size = _
  simp
theorem due_core {B S A P D Z : List Nat} {x sg xf : Str} {d n e0 : Int} (hx : x.cps.toList = B ++ (S ++ (A ++ (P ++ (D ++ Z))))) (h : Shape B S A P D Z) (hn : A ++ D ≠ [])
    (hsg : sg.cps.toList = S) (hd : 1 ≤ d) (en : n = val A * 10 ^ D.length + val D) (hn2 : 0 ≤ n ∧ n < 1000000000000)
    (hf : xf.length = B.length + S.length + A.length + (P.length + D.length) + (expo Z).2) (hf2 : xf.length ≤ 100) (he : -200000 ≤ e0 ∧ e0 ≤ 200000)
    (hc : (expo Z).1 - D.length = e0 ∨ ((expo Z).1 - D.length ≤ -1000 ∧ e0 ≤ -1000) ∨ (1000 ≤ (expo Z).1 - D.length ∧ 1000 ≤ e0)) : DueOk x d n e0 sg xf := by
  obtain ⟨e1, e2, e3⟩ := shape_law h hn d.toNat
  rw [← en] at e3
  unfold DueOk
  rw [hx]
  refine ⟨by rw [e2, hf], hf2, he, ?_, ?_⟩
  · intro q
    rw [str_minus, hsg] at q
    rw [e3, if_pos q]
    exact dec_clamp (by omega) (figs_bound (by decide) (by omega)) hc
  · intro q
    rw [str_minusF, hsg] at q
    rw [e3, if_neg q]
    exact dec_clamp (by omega) (figs_bound (by decide) (by omega)) hc
theorem cl_neg {v D : Int} (hv : 0 ≤ v) (hD : 0 ≤ D ∧ D ≤ 5) : -1 * min v 9999 - D = 0 - D + (0 - v) ∨ (-1 * min v 9999 - D ≤ -1000 ∧ 0 - D + (0 - v) ≤ -1000) ∨ (1000 ≤ -1 * min v 9999 - D ∧ 1000 ≤ 0 - D + (0 - v)) := by
  rcases Int.le_total v 9999 with h | h
  · rw [Int.min_eq_left h]; left; omega
  · rw [Int.min_eq_right h]; right; left; omega
theorem cl_pos {v D : Int} (hv : 0 ≤ v) (hD : 0 ≤ D ∧ D ≤ 5) : 1 * min v 9999 - D = 0 - D + v ∨ (1 * min v 9999 - D ≤ -1000 ∧ 0 - D + v ≤ -1000) ∨ (1000 ≤ 1 * min v 9999 - D ∧ 1000 ≤ 0 - D + v) := by
  rcases Int.le_total v 9999 with h | h
  · rw [Int.min_eq_left h]; left; omega
  · rw [Int.min_eq_right h]; right; right; omega
theorem text_core {B S A P D Lt Ld X T Z : List Nat} {x xf sg x1 x2 lt ld xp : Str} {d n e0 hg : Int}
    (hx : x.cps.toList = B ++ (S ++ (A ++ (P ++ (D ++ Z))))) (hZ : Z = Lt ++ (Ld ++ (X ++ T)) ∨ (X = [] ∧ Z = T)) (h1 : x1.cps.toList = A) (h2 : x2.cps.toList = D) (hsg : sg.cps.toList = S)
    (hlt : lt.cps.toList = Lt) (hld : ld.cps.toList = Ld) (hxp : xp.cps.toList = X) (hxf : xf.cps.toList = B ++ (S ++ (A ++ (P ++ D))))
    (hB : ∀ c ∈ B, isBlank c = true) (hB2 : B.length ≤ 2) (hS : SignOk S) (hA : ∀ c ∈ A, isDig c = true) (hA2 : A.length ≤ 7) (hP : P = [] ∨ P = [46]) (hD : ∀ c ∈ D, isDig c = true) (hD2 : D.length ≤ 5)
    (hPD : P = [] → D = []) (hLt : Z = T ∨ ∃ c, isE c = true ∧ Lt = [c]) (hLd : SignOk Ld) (hX : ∀ c ∈ X, isDig c = true) (hX2 : X.length ≤ 5) (hT : TailOk T)
    (hd : 1 ≤ d) (en : n = val A * 10 ^ D.length + val D) (hn2 : 0 ≤ n ∧ n < 1000000000000) (ee : e0 = 0 - (D.length : Int)) (eh : hg = val X) (hZT : Z = T → X = []) :
    TextOk x d n e0 hg sg xf x1 x2 lt ld xp := by
  have hvX := val_bound X hX
  have hvX2 : 10 ^ X.length ≤ 10 ^ 5 := Nat.pow_le_pow_right (by decide) hX2
  have hv5 : (10 : Nat) ^ 5 = 100000 := by decide
  have hSl : S.length ≤ 1 := by rcases hS with e | e | e <;> rw [e] <;> decide
  have hPl : P.length ≤ 1 := by rcases hP with e | e <;> rw [e] <;> decide
  have hLl : Ld.length ≤ 1 := by rcases hLd with e | e | e <;> rw [e] <;> decide
  have hZe : (X = [] → expo Z = (0, 0)) ∧ (X ≠ [] → expo Z = ((if Ld = [45] then -1 else 1) * min (val X) 9999, 1 + Ld.length + X.length) ∧ Lt.length = 1) := by
    by_cases q : Z = T
    · refine ⟨fun _ => by rw [q]; exact expo_tail hT, fun k => absurd (hZT q) k⟩
    · rcases hZ with z | ⟨_, z⟩
      · rcases hLt with l | ⟨c, hc, l⟩
        · exact absurd l q
        · have := expo_some (S := Ld) (X := X) (T := T) hc hLd hX hT
          rw [z, l]
          exact ⟨this.1, fun k => ⟨this.2 k, rfl⟩⟩
      · exact absurd z q
  have hZk : ZOk Z := by
    by_cases q : Z = T
    · rw [q]
      rcases hT with e | e | e | e
      · exact .inr (by rw [e]; intro c r k; cases k)
      · exact .inl e
      · exact .inr (by rw [e]; intro c r k; cases k; exact ⟨rfl, rfl, by decide, by decide, by decide⟩)
      · exact .inr (by rw [e]; intro c r k; cases k; exact ⟨rfl, rfl, by decide, by decide, by decide⟩)
    · rcases hZ with z | ⟨_, z⟩
      · rcases hLt with l | ⟨c, hc, l⟩
        · exact absurd l q
        · refine .inr ?_
          rw [z, l]
          intro c' r k
          simp at k
          rw [← k.1]
          have : c = 69 ∨ c = 101 ∨ c = 68 ∨ c = 100 := by simpa [isE, or_assoc] using hc
          rcases this with e | e | e | e <;> rw [e] <;> exact ⟨rfl, rfl, by decide, by decide, by decide⟩
      · exact absurd z q
  have hsh : Shape B S A P D Z := ⟨hB, hS, hA, hP, hD, hPD, zok_dig hZk⟩
  have hvoid : A ++ D = [] → pN x.cps.toList = 0 := by
    intro q
    obtain ⟨qa, qd⟩ := List.append_eq_nil_iff.mp q
    rw [hx, qa, qd]
    exact pN_void (B := B) (S := S) (P := P) (Z := Z) hB hS hP hZk
  have hxl : xf.length = B.length + S.length + A.length + (P.length + D.length) := by
    rw [len_cps, hxf]; simp only [List.length_append]; omega
  have hxl2 : (xf ++ lt ++ ld ++ xp).length = B.length + S.length + A.length + (P.length + D.length) + (Lt.length + Ld.length + X.length) := by
    rw [len_cps]; simp only [cps_app, hxf, hlt, hld, hxp, List.length_append]; omega
  have h12 : (x1 ++ x2).cps.toList = A ++ D := by rw [cps_app, h1, h2]
  unfold TextOk
  rw [str_nil, str_nilF, h12, str_minus, str_minusF, hld]
  have hxpF : (xp != Str.ofString "") = false ↔ X = [] := by
    rw [bne_eq_false_iff_eq, ← beq_iff_eq, str_nil, hxp]
  have hxpT : (xp != Str.ofString "") = true ↔ X ≠ [] := by
    rw [Ne, ← hxpF]; simp
  rw [hxpF, hxpT]
  refine ⟨?_, hvoid, ?_, ?_, ?_, ?_⟩
  · by_cases q : A ++ D = []
    · rw [hvoid q]; decide
    · rw [hx, (shape_law hsh q 0).1]; omega
  · intro q
    rw [hx, (shape_law hsh q 0).1]
    intro k
    apply q
    rw [List.append_eq_nil_iff]
    exact ⟨List.eq_nil_of_length_eq_zero (by omega), List.eq_nil_of_length_eq_zero (by omega)⟩
  · intro q k
    have e := hZe.1 k
    exact due_core hx hsh q hsg hd en hn2 (by rw [e]; exact hxl) (by omega) (by omega) (by rw [e]; left; dsimp only; omega)
  · intro q k l
    obtain ⟨e, ll⟩ := hZe.2 k
    rw [if_pos l] at e
    refine due_core hx hsh q hsg hd en hn2 (by rw [e]; dsimp only; omega) (by omega) (by omega) ?_
    rw [e]
    subst ee eh
    exact cl_neg hvX.1 ⟨Int.natCast_nonneg _, Int.ofNat_le.mpr hD2⟩
  · intro q k l
    obtain ⟨e, ll⟩ := hZe.2 k
    rw [if_neg l] at e
    refine due_core hx hsh q hsg hd en hn2 (by rw [e]; dsimp only; omega) (by omega) (by omega) ?_
    rw [e]
    subst ee eh
    exact cl_pos hvX.1 ⟨Int.natCast_nonneg _, Int.ofNat_le.mpr hD2⟩
theorem num_ok {x1 x2 : Str} {n1 n2 : Int} (F1 : FigS 7 x1 n1) (F2 : FigS 5 x2 n2) : 0 ≤ n1 * 10 ^ (x2.length : Int).toNat + n2 ∧ n1 * 10 ^ (x2.length : Int).toNat + n2 < 1000000000000 := by
  have hn1 := figS_num F1 (by omega)
  have hn2 := figS_num F2 (by omega)
  have hl : (x2.length : Int).toNat = x2.cps.toList.length := by rw [len_cps, Int.toNat_natCast]
  rw [hl]
  have b1 : (10 : Int) ^ x2.cps.toList.length = ((10 ^ x2.cps.toList.length : Nat) : Int) := by simp
  have b2 : 10 ^ x2.cps.toList.length ≤ 10 ^ 5 := Nat.pow_le_pow_right (by decide) F2.2.1
  have b3 : (10 : Nat) ^ 5 = 100000 := by decide
  have b5 : n2 < ((10 ^ x2.cps.toList.length : Nat) : Int) := by rw [F2.2.2]; exact (val_bound _ F2.1).2
  rw [b1]
  generalize 10 ^ x2.cps.toList.length = q at b2 b5
  have b4 := Int.mul_nonneg hn1.1 (Int.natCast_nonneg q)
  have b6 := Int.mul_le_mul (show n1 + 1 ≤ 10000000 by omega) (show (q : Int) ≤ 100000 by omega) (Int.natCast_nonneg q) (by decide)
  rw [Int.add_mul] at b6
  omega
theorem figS_num5 {x : Str} {n : Int} (h : FigS 5 x n) : 0 ≤ n ∧ n ≤ 99999 := by
  have h1 := val_bound _ h.1
  have h2 : 10 ^ x.cps.toList.length ≤ 10 ^ 5 := Nat.pow_le_pow_right (by decide) h.2.1
  have h3 := h.2.2
  have h4 : (10 : Nat) ^ 5 = 100000 := by decide
  omega
theorem len_sign {x : Str} (h : x = Str.ofString "" ∨ x = Str.ofString "-" ∨ x = Str.ofString "+") : x.length ≤ 1 := by
  rcases h with e | e | e <;> rw [e] <;> decide +kernel
theorem len_letter {x : Str} (h : x = Str.ofString "" ∨ x = Str.ofString "E" ∨ x = Str.ofString "e" ∨ x = Str.ofString "D") : x.length ≤ 1 := by
  rcases h with e | e | e | e <;> rw [e] <;> decide +kernel
theorem len_tail {x : Str} (h : x = Str.ofString "" ∨ x = Str.ofString " X" ∨ x = Str.ofString "X" ∨ x = Str.ofString ",") : x.length ≤ 2 := by
  rcases h with e | e | e | e <;> rw [e] <;> decide +kernel
theorem len_point {x : Str} (h : x = Str.ofString "" ∨ x = Str.ofString ".") : x.length ≤ 1 := by
  rcases h with e | e <;> rw [e] <;> decide +kernel
theorem figS_void : FigS 5 (Str.ofString "") 0 := ⟨by decide, by decide, by decide⟩
theorem not_void {x y : Str} (h : (x != Str.ofString "") = true) : x = Str.ofString "" → y = Str.ofString "" := fun e => by rw [e] at h; simp at h
/-- the text that a case builds, by what it is built of -/
theorem text_law {xb sg x1 pt x2 lt ld xp tl : Str} {d n1 n2 hg : Int}
    (hxb : ∀ c ∈ xb.cps.toList, isBlank c = true) (lxb : xb.length ≤ 2) (hsg : sg = Str.ofString "" ∨ sg = Str.ofString "-" ∨ sg = Str.ofString "+") (hpt : pt = Str.ofString "" ∨ pt = Str.ofString ".")
    (hlt : lt = Str.ofString "" ∨ lt = Str.ofString "E" ∨ lt = Str.ofString "e" ∨ lt = Str.ofString "D") (hld : ld = Str.ofString "" ∨ ld = Str.ofString "-" ∨ ld = Str.ofString "+")
    (htl : tl = Str.ofString "" ∨ tl = Str.ofString " X" ∨ tl = Str.ofString "X" ∨ tl = Str.ofString ",")
    (F1 : FigS 7 x1 n1) (F2 : FigS 5 x2 n2) (F3 : FigS 5 xp hg) (h0 : pt = Str.ofString "" → x2 = Str.ofString "") (h3 : lt = Str.ofString "" → xp = Str.ofString "") (hd : 1 ≤ d) :
    ((lt != Str.ofString "") = true → TextOk (xb ++ sg ++ x1 ++ pt ++ x2 ++ (lt ++ ld ++ xp) ++ tl) d (n1 * 10 ^ (x2.length : Int).toNat + n2) (0 - (x2.length : Int)) hg sg (xb ++ sg ++ x1 ++ pt ++ x2) x1 x2 lt ld xp) ∧
    ((lt != Str.ofString "") = false → TextOk (xb ++ sg ++ x1 ++ pt ++ x2 ++ Str.ofString "" ++ tl) d (n1 * 10 ^ (x2.length : Int).toNat + n2) (0 - (x2.length : Int)) hg sg (xb ++ sg ++ x1 ++ pt ++ x2) x1 x2 lt ld xp) := by
  have c1 : (Str.ofString "-").cps.toList = [45] := by decide +kernel
  have c2 : (Str.ofString "+").cps.toList = [43] := by decide +kernel
  have c3 : (Str.ofString ".").cps.toList = [46] := by decide +kernel
  have hS : SignOk sg.cps.toList := by rcases hsg with e | e | e <;> rw [e] <;> simp [SignOk, em_cps, c1, c2]
  have hL : SignOk ld.cps.toList := by rcases hld with e | e | e <;> rw [e] <;> simp [SignOk, em_cps, c1, c2]
  have hP : pt.cps.toList = [] ∨ pt.cps.toList = [46] := by rcases hpt with e | e <;> rw [e] <;> simp [em_cps, c3]
  have hT : TailOk tl.cps.toList := by
    have t1 : (Str.ofString " X").cps.toList = [32, 88] := by decide +kernel
    have t2 : (Str.ofString "X").cps.toList = [88] := by decide +kernel
    have t3 : (Str.ofString ",").cps.toList = [44] := by decide +kernel
    rcases htl with e | e | e | e <;> rw [e] <;> simp [TailOk, em_cps, t1, t2, t3]
  have hPD : pt.cps.toList = [] → x2.cps.toList = [] := by
    intro q
    rcases hpt with e | e
    · rw [h0 e]; exact em_cps
    · rw [e, c3] at q; cases q
  have hE : lt.cps.toList = [] ∧ lt = Str.ofString "" ∨ ∃ c, isE c = true ∧ lt.cps.toList = [c] := by
    rcases hlt with e | e | e | e
    · exact .inl ⟨by rw [e]; exact em_cps, e⟩
    · exact .inr ⟨69, rfl, by rw [e]; decide +kernel⟩
    · exact .inr ⟨101, rfl, by rw [e]; decide +kernel⟩
    · exact .inr ⟨68, rfl, by rw [e]; decide +kernel⟩
  have hn1 := figS_num F1 (by omega)
  have hn2 := figS_num F2 (by omega)
  have hl : (x2.length : Int).toNat = x2.cps.toList.length := by rw [len_cps, Int.toNat_natCast]
  have hnn := num_ok F1 F2
  have en : n1 * 10 ^ (x2.length : Int).toNat + n2 = val x1.cps.toList * 10 ^ x2.cps.toList.length + val x2.cps.toList := by rw [hl, F1.2.2, F2.2.2]
  have xf : (xb ++ sg ++ x1 ++ pt ++ x2).cps.toList = xb.cps.toList ++ (sg.cps.toList ++ (x1.cps.toList ++ (pt.cps.toList ++ x2.cps.toList))) := by
    simp only [cps_app, List.append_assoc]
  have lb : xb.cps.toList.length ≤ 2 := by rw [← len_cps]; exact lxb
  constructor
  · intro q
    have hc : ∃ c, isE c = true ∧ lt.cps.toList = [c] := by
      rcases hE with e | e
      · rw [e.2] at q; simp at q
      · exact e
    refine text_core (Z := lt.cps.toList ++ (ld.cps.toList ++ (xp.cps.toList ++ tl.cps.toList))) ?_ (.inl rfl) rfl rfl rfl rfl rfl rfl xf hxb lb hS F1.1 F1.2.1 hP F2.1 F2.2.1 hPD (.inr hc) hL F3.1 F3.2.1 hT hd en hnn (by rw [len_cps]) F3.2.2 ?_
    · simp only [cps_app, List.append_assoc]
    · intro k
      have := congrArg List.length k
      obtain ⟨c, _, hc⟩ := hc
      rw [hc] at this
      simp at this
      exact absurd this (by omega)
  · intro q
    have hxp : xp.cps.toList = [] := by
      rw [bne_eq_false_iff_eq] at q
      rw [h3 q]
      exact em_cps
    refine text_core (Z := tl.cps.toList) (T := tl.cps.toList) ?_ (.inr ⟨hxp, rfl⟩) rfl rfl rfl rfl rfl rfl xf hxb lb hS F1.1 F1.2.1 hP F2.1 F2.2.1 hPD (.inl rfl) hL F3.1 F3.2.1 hT hd en hnn (by rw [len_cps]) F3.2.2 (fun _ => hxp)
    simp only [cps_app, List.append_assoc, em_cps, List.nil_append]
end Mine
namespace Mine
/-- what the exponent's parts are -/
structure Mid where
  lt : Str
  ld : Str
  xp : Str
  tlt : Tok
  tld : Tok
  txp : Tok
  thg : Tok
  tN : Tok
  tT : Tok
  tp' : Tok
  hg : Int
  p' : Int
  ob' : Obj
noncomputable def MidOk (w : World) (cells : Addr) (p : Int) (i : Mid) : Prop :=
  (i.lt = Str.ofString "" ∨ i.lt = Str.ofString "E" ∨ i.lt = Str.ofString "e" ∨ i.lt = Str.ofString "D") ∧ (i.ld = Str.ofString "" ∨ i.ld = Str.ofString "-" ∨ i.ld = Str.ofString "+") ∧ FigS 5 i.xp i.hg ∧ (i.lt = Str.ofString "" → i.xp = Str.ofString "") ∧
    Obj.IsDictOf (PySem.strKind theProg w) i.ob' [(Str.ofString "cells", .ref cells), (Str.ofString "place", .int i.p' i.tp')] ∧ p ≤ i.p' ∧ i.p' ≤ p + 8
theorem case_out {w : World} {b cells : Addr} {vs : List Value} {p p' : Int} {tp' : Tok} {ob' : Obj} {news news' : List (Addr × Obj)} {v : Value} (h1 : v = .bool true) (h2 : news' = (b, ob') :: (cells, LCg.lst vs) :: news)
    (h3 : Obj.IsDictOf (PySem.strKind theProg w) ob' [(Str.ofString "cells", .ref cells), (Str.ofString "place", .int p' tp')]) (h4 : p ≤ p') (h5 : p' ≤ p + 30) : RCase w b cells vs p news v news' := ⟨p', tp', ob', h1, h4, h5, h3, h2⟩
set_option maxRecDepth 100000 in
set_option maxHeartbeats 8000000 in
theorem rest_number (w : World) (b cells : Addr) (ob : Obj) (p₀ p : Int) (hp₀ : p₀ ≤ p ∧ p ≤ p₀ + 17) (tp : Tok) (d : Int) (td : Tok) (vs : List Value) (ns : List Int) (hn : IntsAre vs ns) (hlen : ns.length ≤ 60)
    (hob : Obj.IsDictOf (PySem.strKind theProg w) ob [(Str.ofString "cells", .ref cells), (Str.ofString "place", .int p tp)])
    (hp : 0 ≤ p) (hp2 : p ≤ 700) (hd1 : 1 ≤ d) (hd2 : d ≤ 6) (news : List (Addr × Obj))
    (hbc : b ≠ cells) (hb : ∀ q ∈ news, q.1 ≠ b) (n1 n2 : Int) (x1 x2 xb sg pt : Str) (t1 t2 t3 t4 txb tsg tpt : Tok) (h1 : FigS 7 x1 n1) (h2 : FigS 5 x2 n2) (l0 : xb.length ≤ 2) (lsg : sg.length ≤ 1) (l8 : pt.length ≤ 1) (hxb : ∀ c ∈ xb.cps.toList, isBlank c = true) (hsg : sg = Str.ofString "" ∨ sg = Str.ofString "-" ∨ sg = Str.ofString "+") (hpt : pt = Str.ofString "" ∨ pt = Str.ofString ".") (h0 : pt = Str.ofString "" → x2 = Str.ofString "") (m₀ : Str → Option Value) :
    Rest w 30 4 (fun y => if y = Str.ofString "bag" then some (.ref b) else if y = Str.ofString "digits" then some (.int d td) else if y = Str.ofString "number" then some (.int n1 t1) else if y = Str.ofString "behind" then some (.str x2 t2) else if y = Str.ofString "more" then some (.int n2 t3) else if y = Str.ofString "blanks" then some (.str xb txb) else if y = Str.ofString "sign" then some (.str sg tsg) else if y = Str.ofString "ahead" then some (.str x1 t4) else if y = Str.ofString "point" then some (.str pt tpt) else m₀ y)
      ((b, ob) :: (cells, LCg.lst vs) :: news) (RCase w b cells vs p₀ news) := by
  unfold Rest
  intro loose mean mg mb dp un gd cn cs L a ccd outer base g L' s Q E B F X N T XB TB D hk hd hu hret
  rw [body_at (by k_is), scope_at (by k_is)]
  dsimp only [bodyOf, scopeOf', fnOf, List.drop]
  have hx1 := figS_len h1
  have hx2 := figS_len h2
  have hm1 := figS_num h1 (by omega)
  have hm2 := figS_num h2 (by omega)
  k_with_none
  k_with "MINE enter" => (refine' code_defS ?k1 ?k2 ?k3 ?k4 ?k5 ?XB ?TB ?D ?T0 ?kA ?k6 ?k7 ?k8 ?k9 ?kB ?_ ?cK ?c2 ?c3 ?c4 ?c5; (case kA => exact rfl); (case k2 => k_asm); (case k1 => k_asm); (case XB => assumption); (case TB => assumption); (case D => assumption); (case T0 => exact KtsTurn.refl); (case k3 => k_asm); (case k4 => k_asm); (case k5 => k_asm); (case k6 => k_is); (case k7 => k_is); (case k8 => ktr_room); (case k9 => exact BindsTo.of_eq rfl); (case kB => exact locs rfl); (case cK => assumption); (case c2 => exact rfl); (case c3 => exact rfl); (case c4 => exact rfl); (case c5 => decide); k_whole; intro g' L' h' FG' F' N' B' X' T' D'; (try dsimp only); (try k_lift B'); (try k_fold))
  k_with "call ref" => (k_here; (with_reducible show wpAny _ _ (call (Value.ref 94) [Value.ref _, Value.int _ _]) _ _ _); k_dflt (refine' TellX.use (rat_tell _ _ _ _ _ _ _ _ _ _ ?q1 ?q2 ?q3 ?q4 ?q5 ?q6 ?q7 _ ?q8 ?q9) ?k1 ?k2 ?k3 ?k4 ?k5 ?kK ?kd ?ku ?_ (fun h => h.elim); (case k1 => k_asm); (case k2 => k_asm); (case k3 => k_asm); (case k5 => k_asm); (case kK => exact rfl); (case q1 => with_reducible assumption); (case q2 => with_reducible assumption); (case q3 => with_reducible assumption); (case q8 => with_reducible assumption); (first | ((case k4 => ((refine pickL (by with_reducible assumption) (by with_reducible assumption) ?_ ?_ ?_); (focus (repeat (first | exact List.Mem.head _ | refine List.Mem.tail _ ?_))); (focus (repeat (first | exact List.Mem.head _ | refine List.Mem.tail _ ?_))); (focus (repeat (first | exact sub_refl | refine sub_tail ?_))))); (case q9 => exact hb_cons (Nat.ne_of_gt (by first | exact And.left (by with_reducible assumption) | exact And.left (And.right (by with_reducible assumption)) | exact And.left (And.right (And.right (by with_reducible assumption))) | exact And.left (And.right (And.right (And.right (by with_reducible assumption)))) | exact And.left (And.right (And.right (And.right (And.right (by with_reducible assumption))))) | exact And.left (And.right (And.right (And.right (And.right (And.right (by with_reducible assumption)))))) | exact And.left (And.right (And.right (And.right (And.right (And.right (And.right (by with_reducible assumption))))))) | exact And.left (And.right (And.right (And.right (And.right (And.right (And.right (And.right (by with_reducible assumption)))))))))) (by with_reducible assumption))) | ((case q9 => with_reducible assumption); (case k4 => first | with_reducible assumption | ((refine pick0 (by with_reducible assumption) ?_ ?_ ?_); (focus (repeat (first | exact List.Mem.head _ | refine List.Mem.tail _ ?_))); (focus (repeat (first | exact List.Mem.head _ | refine List.Mem.tail _ ?_))); (focus (repeat (first | exact sub_refl | refine sub_tail ?_))))))); (case q4 => omega); (case q5 => omega); (case q6 => first | decide | omega); (case q7 => first | decide | omega); (case kd => ktr_room); (case ku => ktr_units)); intro v9 news9 h9 tk9 hR9 F9 N9; obtain ⟨r9, t9, t9', ob9, hv9, e9, e9', e9'', hn9⟩ := hR9; subst hv9 hn9; (try dsimp only))
  k_with "call ref" => (k_here; (with_reducible show wpAny _ _ (call (Value.ref 101) [Value.ref _, Value.int _ _]) _ _ _); k_dflt (refine' TellX.use (fig_tell _ _ _ _ _ _ _ _ _ _ ?q1 ?q2 ?q3 ?q4 ?q5 ?q6 ?q7 _ ?q8 ?q9) ?k1 ?k2 ?k3 ?k4 ?k5 ?kK ?kd ?ku ?_ (fun h => h.elim); (case k1 => k_asm); (case k2 => k_asm); (case k3 => k_asm); (case k5 => k_asm); (case kK => exact rfl); (case q1 => with_reducible assumption); (case q2 => with_reducible assumption); (case q3 => with_reducible assumption); (case q8 => with_reducible assumption); ((case q9 => with_reducible assumption); (case k4 => first | with_reducible assumption | ((refine pick0 (by with_reducible assumption) ?_ ?_ ?_); (focus (repeat (first | exact List.Mem.head _ | refine List.Mem.tail _ ?_))); (focus (repeat (first | exact List.Mem.head _ | refine List.Mem.tail _ ?_))); (focus (repeat (first | exact sub_refl | refine sub_tail ?_)))))); (case q4 => omega); (case q5 => omega); (case q6 => first | decide | omega); (case q7 => first | decide | omega); (case kd => ktr_room); (case ku => ktr_units)); intro v9 news9 h9 tk9 hR9 F9 N9; obtain ⟨l9, x9, tx9, n9, tn9, p9, tp9, ob9, hv9, l9', eF9, e9, e9', e9'', hn9⟩ := hR9; subst hv9 hn9; (have hx9 := figS_len eF9); (have hm9 := figS_num eF9 (by omega)); (try simp only [AllLt, and_true] at l9'); (try dsimp only))
  k_with "binaryOp Mult int int" => (k_here; (with_reducible refine mul_first ?hm ?_); (case hm => omega); (try dsimp only))
  k_with "binaryOp Pow int int" => (k_here; (with_reducible refine pow_tell ?hs ?ht ?_); (case hs => omega); (case ht => omega); (try dsimp only))
  k_with "subscriptTail" => (k_here; (with_reducible show wpAny _ _ (subscriptTail _ _ (Value.ref _) (Value.int _ _)) _ _ _); (rename News _ _ _ ((_, _) :: (_, LCg.lst _) :: (_, W.listOf _ _) :: _) => lN'); (refine' pickS lN' ?hi ?h0 ?hk ?hf ?_); (case hi => repeat constructor); (case h0 => omega); (case hk => (simp only [List.length_cons, List.length_nil]; omega)); (case hf => omega); (replace lN' := drop_third lN'); intro y' t' hy'; (simp only [List.mem_cons, List.not_mem_nil, or_false] at hy'); (try dsimp only))
  k_with "MINE to front" => (repeat' ((fail_if_success (with_reducible show wpAny _ _ (execs [Stmt.Assign [PySem.Expr.Name (Str.ofString "front") _] _ _, _, _, _, _, _] _) _ _ _)); walk1))
  repeat' ((fail_if_success (with_reducible show wpAny _ _ (exec (Stmt.Assign _ (PySem.Expr.IfExp _ _ _ _) _) _) _ _ _)); walk1)
  rename Fr _ _ _ _ => F1
  rename _ = Str.ofString "" ∨ _ = Str.ofString "E" ∨ _ => hlt
  rename _ = Str.ofString "" ∨ _ = Str.ofString "-" ∨ _ => hld
  refine join_execV (ι := Mid) F1 (fun i => (b, i.ob') :: (cells, LCg.lst vs) :: news) (fun i m' y => if y = Str.ofString "bag" then some (.ref b) else if y = Str.ofString "digits" then some (.int d td) else if y = Str.ofString "number" then some (.int (n1 * 10 ^ (x2.length : Int).toNat + n2) i.tN) else if y = Str.ofString "sign" then some (.str sg tsg) else if y = Str.ofString "tens" then some (.int (0 - (x2.length : Int)) i.tT) else if y = Str.ofString "ahead" then some (.str x1 t4) else if y = Str.ofString "behind" then some (.str x2 t2) else if y = Str.ofString "letter" then some (.str i.lt i.tlt) else if y = Str.ofString "lead" then some (.str i.ld i.tld) else if y = Str.ofString "power" then some (.str i.xp i.txp) else if y = Str.ofString "height" then some (.int i.hg i.thg) else if y = Str.ofString "blanks" then some (.str xb txb) else if y = Str.ofString "point" then some (.str pt tpt) else m' y) (MidOk w cells p) ?_ ?_
  · k_steps
    · rename FigS (Int.toNat 5) _ _ => F3
      refine JoinedV.intro ⟨_, _, _, _, _, _, _, _, _, _, _, _, _⟩ (Fr.sees [(Str.ofString "bag", _), (Str.ofString "digits", _), (Str.ofString "number", _), (Str.ofString "sign", _), (Str.ofString "tens", _), (Str.ofString "ahead", _), (Str.ofString "behind", _), (Str.ofString "letter", _), (Str.ofString "lead", _), (Str.ofString "power", _), (Str.ofString "height", _), (Str.ofString "blanks", _), (Str.ofString "point", _)] (by with_reducible assumption) (by repeat (first | exact trivial | refine And.intro rfl ?_))) (by first | with_reducible assumption | exact drop0 (by with_reducible assumption) | exact drop0 (drop0 (by with_reducible assumption))) ⟨hlt, hld, F3, not_void (by with_reducible assumption), by with_reducible assumption, ?_, ?_⟩ <;> (dsimp only; omega)
    · refine JoinedV.intro ⟨_, _, _, _, _, _, _, _, _, _, _, _, _⟩ (Fr.sees [(Str.ofString "bag", _), (Str.ofString "digits", _), (Str.ofString "number", _), (Str.ofString "sign", _), (Str.ofString "tens", _), (Str.ofString "ahead", _), (Str.ofString "behind", _), (Str.ofString "letter", _), (Str.ofString "lead", _), (Str.ofString "power", _), (Str.ofString "height", _), (Str.ofString "blanks", _), (Str.ofString "point", _)] (by with_reducible assumption) (by repeat (first | exact trivial | refine And.intro rfl ?_))) (by first | with_reducible assumption | exact drop0 (by with_reducible assumption) | exact drop0 (drop0 (by with_reducible assumption))) ⟨hlt, hld, figS_void, fun _ => rfl, by with_reducible assumption, ?_, ?_⟩ <;> (dsimp only; omega)
  clear F1
  rintro ⟨lt, ld, xp, tlt, tld, txp, thg, tN, tT, tp', hg, p', ob'⟩ mA hA tkA FA NA ⟨hlt, hld, F3, hlx, hob', hp1, hp2'⟩
  dsimp only at FA NA hlt hld F3 hlx hob' hp1 hp2' ⊢
  walk_at "MINE to front"
  rename _ = Str.ofString "" ∨ _ = Str.ofString " X" ∨ _ => htl
  have K5 := text_law (d := d) hxb l0 hsg hpt hlt hld htl h1 h2 F3 h0 hlx hd1
  refine rest_front w d _ (0 - (x2.length : Int)) _ td _ _ _ xb sg x1 pt x2 _ _ _ _ txb tsg t4 tpt t2 _ _ _ _ hd1 hd2 (num_ok h1 h2) (by omega) (figS_num5 F3) l0 lsg hx1 l8 hx2 (len_letter hlt) (len_sign hld) F3.2.1 (len_tail htl) K5.1 K5.2 _ _ _ _ _ _ _ _ _ _ _ _ _ _ _ _ _ _ _ _ _ B (Fr.sees [(Str.ofString "digits", _), (Str.ofString "number", _), (Str.ofString "sign", _), (Str.ofString "tens", _), (Str.ofString "ahead", _), (Str.ofString "behind", _), (Str.ofString "letter", _), (Str.ofString "lead", _), (Str.ofString "power", _), (Str.ofString "height", _), (Str.ofString "blanks", _), (Str.ofString "point", _), (Str.ofString "tail", _)] (by with_reducible assumption) (by repeat (first | exact trivial | refine And.intro rfl ?_))) X (by with_reducible assumption) T XB TB D hk (by omega) (by omega) (fun v news' h' tk' g' m' hR hT hF hN => hret _ _ _ _ _ _ ?_ hT hF hN)
  refine case_out hR.1 hR.2 (by with_reducible assumption) ?_ ?_ <;> omega
end Mine
namespace Mine
theorem mul_blank {M : Program} {w : World} {A : Around} {E : Value → Shared → Prop} {s : Shared} {n : Int} {t u : Tok} {Q : Value → Shared → Prop} (h0 : 0 ≤ n) (h3 : n < 3)
    (h : ∀ y t' k, (∀ c ∈ y.cps.toList, isBlank c = true) → y.length ≤ 2 → Q (.str y t') { s with toks := k }) : wpAny (model M w) A (binaryOp .Mult (.str (Str.ofString " ") t) (.int n u)) Q E s := by
  have e : Str.ofString " " = ⟨#[32]⟩ := by decide +kernel
  rw [e]
  refine SB.mul (mulOk_of 16 16 (by decide) (by omega) (by omega) (by decide) (by decide)) fun t' k => h _ _ _ ?_ ?_
  · rw [mul_one_list]
    intro c hc
    rw [(List.mem_replicate.mp hc).2]
    rfl
  · exact len_mul_one rfl (by omega)
set_option maxRecDepth 100000 in
set_option maxHeartbeats 8000000 in
theorem case_tell (w : World) (b cells : Addr) (ob : Obj) (p : Int) (tp : Tok) (d : Int) (td : Tok) (vs : List Value) (ns : List Int) (hn : IntsAre vs ns) (hlen : ns.length ≤ 60)
    (hob : Obj.IsDictOf (PySem.strKind theProg w) ob [(Str.ofString "cells", .ref cells), (Str.ofString "place", .int p tp)])
    (hp : 0 ≤ p) (hp2 : p ≤ 600) (hd1 : 1 ≤ d) (hd2 : d ≤ 6) (news : List (Addr × Obj))
    (hbc : b ≠ cells) (hb : ∀ q ∈ news, q.1 ≠ b) :
    TellS w 40 122 [.ref b, .int d td] ((b, ob) :: (cells, LCg.lst vs) :: news) (RCase w b cells vs p news) := by
  unfold TellS
  intro loose mean mg mb dp un gd cn cs a ccd outer A₀ base h₀ L m s Q E B F X N T XB TB D hk hd hu hret
  refine wpAny_call ?_
  k_with_none
  k_with "MINE enter" => (refine' code_defS ?k1 ?k2 ?k3 ?k4 ?k5 ?XB ?TB ?D ?T0 ?kA ?k6 ?k7 ?k8 ?k9 ?kB ?_ ?cK ?c2 ?c3 ?c4 ?c5; (case kA => exact rfl); (case k2 => k_asm); (case k1 => k_asm); (case XB => assumption); (case TB => assumption); (case D => assumption); (case T0 => exact KtsTurn.refl); (case k3 => k_asm); (case k4 => k_asm); (case k5 => k_asm); (case k6 => k_is); (case k7 => k_is); (case k8 => ktr_room); (case k9 => exact BindsTo.of_eq rfl); (case kB => exact locs rfl); (case cK => assumption); (case c2 => exact rfl); (case c3 => exact rfl); (case c4 => exact rfl); (case c5 => decide); k_whole; intro g' L' h' FG' F' N' B' X' T' D'; (try dsimp only); (try k_lift B'); (try k_fold))
  k_with "call ref" => (k_here; (with_reducible show wpAny _ _ (call (Value.ref 94) [Value.ref _, Value.int _ _]) _ _ _); k_dflt (refine' TellX.use (rat_tell _ _ _ _ _ _ _ _ _ _ ?q1 ?q2 ?q3 ?q4 ?q5 ?q6 ?q7 _ ?q8 ?q9) ?k1 ?k2 ?k3 ?k4 ?k5 ?kK ?kd ?ku ?_ (fun h => h.elim); (case k1 => k_asm); (case k2 => k_asm); (case k3 => k_asm); (case k5 => k_asm); (case kK => exact rfl); (case q1 => with_reducible assumption); (case q2 => with_reducible assumption); (case q3 => with_reducible assumption); (case q8 => with_reducible assumption); (first | ((case k4 => ((refine pickL (by with_reducible assumption) (by with_reducible assumption) ?_ ?_ ?_); (focus (repeat (first | exact List.Mem.head _ | refine List.Mem.tail _ ?_))); (focus (repeat (first | exact List.Mem.head _ | refine List.Mem.tail _ ?_))); (focus (repeat (first | exact sub_refl | refine sub_tail ?_))))); (case q9 => exact hb_cons (Nat.ne_of_gt (by first | exact And.left (by with_reducible assumption) | exact And.left (And.right (by with_reducible assumption)) | exact And.left (And.right (And.right (by with_reducible assumption))) | exact And.left (And.right (And.right (And.right (by with_reducible assumption)))) | exact And.left (And.right (And.right (And.right (And.right (by with_reducible assumption))))) | exact And.left (And.right (And.right (And.right (And.right (And.right (by with_reducible assumption)))))) | exact And.left (And.right (And.right (And.right (And.right (And.right (And.right (by with_reducible assumption))))))) | exact And.left (And.right (And.right (And.right (And.right (And.right (And.right (And.right (by with_reducible assumption)))))))))) (by with_reducible assumption))) | ((case q9 => with_reducible assumption); (case k4 => first | with_reducible assumption | ((refine pick0 (by with_reducible assumption) ?_ ?_ ?_); (focus (repeat (first | exact List.Mem.head _ | refine List.Mem.tail _ ?_))); (focus (repeat (first | exact List.Mem.head _ | refine List.Mem.tail _ ?_))); (focus (repeat (first | exact sub_refl | refine sub_tail ?_))))))); (case q4 => omega); (case q5 => omega); (case q6 => first | decide | omega); (case q7 => first | decide | omega); (case kd => ktr_room); (case ku => ktr_units)); intro v9 news9 h9 tk9 hR9 F9 N9; obtain ⟨r9, t9, t9', ob9, hv9, e9, e9', e9'', hn9⟩ := hR9; subst hv9 hn9; (try dsimp only))
  k_with "call ref" => (k_here; (with_reducible show wpAny _ _ (call (Value.ref 101) [Value.ref _, Value.int _ _]) _ _ _); k_dflt (refine' TellX.use (fig_tell _ _ _ _ _ _ _ _ _ _ ?q1 ?q2 ?q3 ?q4 ?q5 ?q6 ?q7 _ ?q8 ?q9) ?k1 ?k2 ?k3 ?k4 ?k5 ?kK ?kd ?ku ?_ (fun h => h.elim); (case k1 => k_asm); (case k2 => k_asm); (case k3 => k_asm); (case k5 => k_asm); (case kK => exact rfl); (case q1 => with_reducible assumption); (case q2 => with_reducible assumption); (case q3 => with_reducible assumption); (case q8 => with_reducible assumption); ((case q9 => with_reducible assumption); (case k4 => first | with_reducible assumption | ((refine pick0 (by with_reducible assumption) ?_ ?_ ?_); (focus (repeat (first | exact List.Mem.head _ | refine List.Mem.tail _ ?_))); (focus (repeat (first | exact List.Mem.head _ | refine List.Mem.tail _ ?_))); (focus (repeat (first | exact sub_refl | refine sub_tail ?_)))))); (case q4 => omega); (case q5 => omega); (case q6 => first | decide | omega); (case q7 => first | decide | omega); (case kd => ktr_room); (case ku => ktr_units)); intro v9 news9 h9 tk9 hR9 F9 N9; obtain ⟨l9, x9, tx9, n9, tn9, p9, tp9, ob9, hv9, l9', eF9, e9, e9', e9'', hn9⟩ := hR9; subst hv9 hn9; (have hx9 := figS_len eF9); (have hm9 := figS_num eF9 (by omega)); (try simp only [AllLt, and_true] at l9'); (try dsimp only))
  k_with "subscriptTail" => (k_here; (with_reducible show wpAny _ _ (subscriptTail _ _ (Value.ref _) (Value.int _ _)) _ _ _); (rename News _ _ _ ((_, _) :: (_, LCg.lst _) :: (_, W.listOf _ _) :: _) => lN'); (refine' pickS lN' ?hi ?h0 ?hk ?hf ?_); (case hi => repeat constructor); (case h0 => omega); (case hk => (simp only [List.length_cons, List.length_nil]; omega)); (case hf => omega); (replace lN' := drop_third lN'); intro y' t' hy'; (simp only [List.mem_cons, List.not_mem_nil, or_false] at hy'); (try dsimp only))
  k_with "binaryOp Mult str int" => (k_here; (with_reducible show wpAny _ _ (binaryOp Operator.Mult (Value.str _ _) (Value.int _ _)) _ _ _); (refine mul_blank ?h0 ?h3 ?_); (case h0 => omega); (case h3 => omega); intro y' t' k' hxb' hxl'; (try dsimp only))
  k_with "MINE to number" => (repeat' ((fail_if_success (with_reducible show wpAny _ _ (execs [Stmt.Assign _ _ _, _, _, _, _, _, _, _, _, _] _) _ _ _)); walk1))
  k_dflt (walk_at "MINE enter")
  walk_at "MINE to number"
  all_goals (rename _ = Str.ofString "" ∨ _ = Str.ofString "-" ∨ _ => hsg)
  all_goals (rename _ = Str.ofString "" ∨ _ = Str.ofString "." => hpt)
  all_goals (rename ∀ c ∈ _, isBlank c = true => hxb)
  all_goals (rename Str.length _ ≤ 2 => lxb)
  all_goals (rename FigS (Int.toNat 7) _ _ => F1)
  all_goals (rename Below (ktrTop dp un gd cn cs L a ccd [] outer) base (envOf cn cs L a ccd :: outer) _ => B1)
  · rename FigS (Int.toNat 5) _ _ => F2
    refine rest_number w b cells _ p _ ?_ _ d td vs ns hn hlen (by with_reducible assumption) ?_ ?_ hd1 hd2 news hbc hb _ _ _ _ _ _ _ _ _ _ _ _ _ _ F1 F2 lxb (len_sign hsg) (len_point hpt) hxb hsg hpt (not_void (by with_reducible assumption)) _ _ _ _ _ _ _ _ _ _ _ _ _ _ _ _ _ _ _ _ B1 (Fr.sees [(Str.ofString "bag", _), (Str.ofString "digits", _), (Str.ofString "number", _), (Str.ofString "behind", _), (Str.ofString "more", _), (Str.ofString "blanks", _), (Str.ofString "sign", _), (Str.ofString "ahead", _), (Str.ofString "point", _)] (by with_reducible assumption) (by repeat (first | exact trivial | refine And.intro rfl ?_))) (by with_reducible assumption) (by first | with_reducible assumption | exact drop0 (by with_reducible assumption)) (by with_reducible assumption) XB TB (by with_reducible assumption) hk ?_ ?_ (fun v news' h' tk' g' m' hR hT hF hN => ?_)
    · omega
    · omega
    · omega
    · omega
    · omega
    · refine leaveS_r hF hN hT (fun h₀' a1 a2 a3 a4 a5 a6 a7 => ?_)
      exact hret _ _ _ _ _ hR a1 a2 a3 a4 a5 a6 a7
  · skip
    refine rest_number w b cells _ p _ ?_ _ d td vs ns hn hlen (by with_reducible assumption) ?_ ?_ hd1 hd2 news hbc hb _ _ _ _ _ _ _ _ _ _ _ _ _ _ F1 figS_void lxb (len_sign hsg) (len_point hpt) hxb hsg hpt (fun _ => rfl) _ _ _ _ _ _ _ _ _ _ _ _ _ _ _ _ _ _ _ _ B1 (Fr.sees [(Str.ofString "bag", _), (Str.ofString "digits", _), (Str.ofString "number", _), (Str.ofString "behind", _), (Str.ofString "more", _), (Str.ofString "blanks", _), (Str.ofString "sign", _), (Str.ofString "ahead", _), (Str.ofString "point", _)] (by with_reducible assumption) (by repeat (first | exact trivial | refine And.intro rfl ?_))) (by with_reducible assumption) (by first | with_reducible assumption | exact drop0 (by with_reducible assumption)) (by with_reducible assumption) XB TB (by with_reducible assumption) hk ?_ ?_ (fun v news' h' tk' g' m' hR hT hF hN => ?_)
    · omega
    · omega
    · omega
    · omega
    · omega
    · refine leaveS_r hF hN hT (fun h₀' a1 a2 a3 a4 a5 a6 a7 => ?_)
      exact hret _ _ _ _ _ hR a1 a2 a3 a4 a5 a6 a7
end Mine
namespace Mine
/-- what a written text tells -/
structure Lit (x : Str) (d : Int) (a b : Int) (k : Int) : Prop where
  len : x.length ≤ 100
  few : pN x.cps.toList ≤ 13
  some : pN x.cps.toList ≠ 0
  is : pR x.cps.toList d.toNat = Option.some (a, b)
  at' : ((pAt x.cps.toList : Nat) : Int) = k
theorem Lit.noOV {x : Str} {d a b : Int} {k : Int} (l : Lit x d a b k) {G : Prop} (h : pN x.cps.toList ≠ 0 ∧ pR x.cps.toList d.toNat = none) : G := by
  rw [l.is] at h
  cases h.2
theorem Lit.shape {x : Str} {d a b : Int} {k : Int} {news news' : List (Addr × Obj)} {v : Value} (l : Lit x d a b k) (hab : a ≠ 0) (h : RText x d news v news') :
    ∃ (q q1 : Addr) (tg t1 t2 : Tok), v = .ref q ∧ AllLt q news ∧ q1 < q ∧ AllLt q1 news ∧ news' = (q, { cls := .type "tuple", data := .seq #[.ref q1, .int k tg] }) :: (q1, { cls := .type "tuple", data := .seq #[.int a t1, .int b t2] }) :: news := by
  rcases h with h | h
  · exact absurd h.1 l.some
  · obtain ⟨_, q, y1, y2, g, tg, e, hv, h1, eg, h2⟩ := h
    rw [l.is] at e
    cases e
    rw [l.at'] at eg
    subst eg
    rcases h2 with ⟨q1, t1, t2, h3, h4, h5⟩ | ⟨z, _⟩
    · exact ⟨q, q1, tg, t1, t2, hv, h1, h3, h4, h5⟩
    · exact absurd z hab
theorem lit1 : Lit (Str.ofString "1E") 6 1 0 1 := by
  rw [show Str.ofString "1E" = ⟨#[49, 69]⟩ from by decide +kernel]
  exact ⟨by decide, by decide, by decide, by decide +kernel, by decide⟩
theorem lit2 : Lit (Str.ofString "1E+X") 6 1 0 1 := by
  rw [show Str.ofString "1E+X" = ⟨#[49, 69, 43, 88]⟩ from by decide +kernel]
  exact ⟨by decide, by decide, by decide, by decide +kernel, by decide⟩
theorem lit3 : Lit (Str.ofString "12.") 6 12 0 3 := by
  rw [show Str.ofString "12." = ⟨#[49, 50, 46]⟩ from by decide +kernel]
  exact ⟨by decide, by decide, by decide, by decide +kernel, by decide⟩
theorem lit4 : Lit (Str.ofString "1E99") 4 1 99 4 := by
  rw [show Str.ofString "1E99" = ⟨#[49, 69, 57, 57]⟩ from by decide +kernel]
  exact ⟨by decide, by decide, by decide, by decide +kernel, by decide⟩
theorem lit5 : Lit (Str.ofString "1E-99") 4 1 (-99) 5 := by
  rw [show Str.ofString "1E-99" = ⟨#[49, 69, 45, 57, 57]⟩ from by decide +kernel]
  exact ⟨by decide, by decide, by decide, by decide +kernel, by decide⟩
theorem lit6 : Lit (Str.ofString "1E-100") 4 0 0 6 := by
  rw [show Str.ofString "1E-100" = ⟨#[49, 69, 45, 49, 48, 48]⟩ from by decide +kernel]
  exact ⟨by decide, by decide, by decide, by decide +kernel, by decide⟩
/-- a written text that is too great -/
structure LitOV (x : Str) (d : Int) : Prop where
  len : x.length ≤ 100
  few : pN x.cps.toList ≤ 13
  some : pN x.cps.toList ≠ 0
  is : pR x.cps.toList d.toNat = none
theorem lit7 : LitOV (Str.ofString "1E100") 4 := by
  rw [show Str.ofString "1E100" = ⟨#[49, 69, 49, 48, 48]⟩ from by decide +kernel]
  exact ⟨by decide, by decide, by decide, by decide +kernel⟩
theorem LitOV.noText {x : Str} {d : Int} {news news' : List (Addr × Obj)} {v : Value} (l : LitOV x d) (h : RText x d news v news') {G : Prop} : G := by
  rcases h with h | h
  · exact absurd h.1 l.some
  · obtain ⟨_, q, y1, y2, g, tg, e, _⟩ := h
    rw [l.is] at e
    cases e
theorem Lit.heard {x : Str} {d a b : Int} {k : Int} {news news' : List (Addr × Obj)} {v : Value} (l : Lit x d a b k) (hab : a ≠ 0) (h : RHeard x d news v news') :
    ∃ (q q1 : Addr) (tg t1 t2 : Tok), v = .ref q ∧ AllLt q news ∧ q1 < q ∧ AllLt q1 news ∧ news' = (q, { cls := .type "tuple", data := .seq #[.ref q1, .int k tg] }) :: (q1, { cls := .type "tuple", data := .seq #[.int a t1, .int b t2] }) :: news := by
  rcases h with h | h
  · exact l.shape hab h
  · exact l.noOV ⟨h.1, h.2.1⟩
theorem Lit.either {x : Str} {d : Int} {k : Int} {news news' : List (Addr × Obj)} {v : Value} (l : Lit x d 0 0 k) (h : RHeard x d news v news') :
    ∃ (q r r' : Addr) (o' : Obj) (tg : Tok), v = .ref q ∧ AllLt q news ∧ (r = 59 ∨ (r = r' ∧ ∃ t1 t2, o' = { cls := .type "tuple", data := .seq #[.int 0 t1, .int 0 t2] })) ∧
      ∀ p ∈ (q, { cls := .type "tuple", data := .seq #[.ref r, .int k tg] }) :: (r', o') :: news, p ∈ news' := by
  rcases h with h | h
  · rcases h with h | h
    · exact absurd h.1 l.some
    · obtain ⟨_, q, y1, y2, g, tg, e, hv, h1, eg, h2⟩ := h
      rw [l.is] at e
      cases e
      rw [l.at'] at eg
      subst eg
      rcases h2 with ⟨q1, t1, t2, h3, h4, h5⟩ | ⟨_, _, h5⟩
      · exact ⟨q, q1, q1, { cls := .type "tuple", data := .seq #[.int 0 t1, .int 0 t2] }, tg, hv, h1, .inr ⟨rfl, t1, t2, rfl⟩, by rw [h5]; exact fun _ hp => hp⟩
      · refine ⟨q, 59, q, { cls := .type "tuple", data := .seq #[.ref 59, .int g tg] }, tg, hv, h1, .inl rfl, ?_⟩
        rw [h5]
        intro p hp
        rcases List.mem_cons.mp hp with rfl | hp
        · exact .head _
        rcases List.mem_cons.mp hp with rfl | hp
        · exact .head _
        · exact .tail _ hp
  · exact l.noOV ⟨h.1, h.2.1⟩
theorem LitOV.heard {x : Str} {d : Int} {news news' : List (Addr × Obj)} {v : Value} (l : LitOV x d) (h : RHeard x d news v news') : ∃ t, v = .str (Str.ofString "OV") t ∧ news' = news := by
  rcases h with h | h
  · exact l.noText h
  · exact h.2.2
end Mine
namespace Mine
theorem bag_start {w : World} {ob : Obj} {cells : Addr} {t1 t2 t3 : Tok} (h : Obj.IsDictOf (PySem.strKind theProg w) ob (strPairs [(.str (Str.ofString "cells") t1, .ref cells), (.str (Str.ofString "place") t2, .int 0 t3)])) :
    Obj.IsDictOf (PySem.strKind theProg w) ob [(Str.ofString "cells", .ref cells), (Str.ofString "place", .int 0 t3)] := h
theorem cells_len {ns : List Int} {f : Int → Int} : (List.map f (List.take 60 ns)).length ≤ 60 := by
  rw [List.length_map, List.length_take]
  omega
theorem dicts0 {g : Heap} : KtsDicts (([] : List Env).filterMap (·.frame)) g := fun b hb => by cases hb
theorem hb0 {b : Addr} : ∀ q ∈ ([] : List (Addr × Obj)), q.1 ≠ b := fun q hq => by cases hq
theorem sub0 {b : List (Addr × Obj)} : ∀ p ∈ ([] : List (Addr × Obj)), p ∈ b := fun q hq => by cases hq
theorem either_known {w : World} {g h : Heap} {L : Addr} {news : List (Addr × Obj)} {r r' : Addr} {o' : Obj} (hr : r = 59 ∨ (r = r' ∧ ∃ t1 t2, o' = { cls := .type "tuple", data := .seq #[.int 0 t1, .int 0 t2] })) (X : (Mine.hd.heap_39 w.params).In h) (N : News g L h news) (hm : (r', o') ∈ news) :
    ∃ as, Reads h (.ref r) (.tuple [.int 0, .int 0]) as := by
  rcases hr with rfl | ⟨rfl, t1, t2, rfl⟩
  · exact nought_reads X
  · exact ⟨_, reads_tuple_at (N _ hm).1 rfl rfl (ReadsAll.cons (Reads.int _ _) (ReadsAll.cons (Reads.int _ _) ReadsAll.nil))⟩
theorem either_reads {w : World} {g h : Heap} {L : Addr} {news : List (Addr × Obj)} {r r' : Addr} {o' : Obj} (hr : r = 59 ∨ (r = r' ∧ ∃ t1 t2, o' = { cls := .type "tuple", data := .seq #[.int 0 t1, .int 0 t2] })) (X : (Mine.hd.heap_39 w.params).In h) (N : News g L h news) (hm : (r', o') ∈ news) :
    Reads h (.ref r) (.tuple [.int 0, .int 0]) (Classical.choose (either_known hr X N hm)) := Classical.choose_spec (either_known hr X N hm)
theorem back_fr {h₀ g h : Heap} {L : Addr} {m : Str → Option Value} (T : KtsTurn (([] : List Env).filterMap (·.frame)) h₀ g) (F : Fr g L h m) : Fr h₀ L h m :=
  ⟨F.ns, fun b o e => F.keep b o (T.other b o e (by intro q; cases q)), T.size ▸ F.above⟩
theorem back_news {h₀ g h : Heap} {L : Addr} {news : List (Addr × Obj)} (T : KtsTurn (([] : List Env).filterMap (·.frame)) h₀ g) (N : News g L h news) : News h₀ L h news := fun p hp => ⟨(N p hp).1, (N p hp).2.1, by
  cases q : h₀.get? p.1 with
  | none => rfl
  | some o =>
    have := (N p hp).2.2
    rw [T.other _ _ q (by intro q; cases q)] at this
    cases this⟩
theorem TellS.use0 {w : World} {k : Nat} {f : Addr} {vs : List Value} {news : List (Addr × Obj)} {R : Value → List (Addr × Obj) → Prop} (C : TellS w k f vs news R)
    {loose : List Str} {mean : ExcName → Option Value} {mg mb : Str → Option Value}
    {dp un : Nat} {gd : Option (List Code)} {cn : Str} {cs : Scope} {a : Addr} {ccd : Value} {A₀ : Around} {base h₀ : Heap} {L : Addr} {m : Str → Option Value} {s : Shared} {Q E : Value → Shared → Prop}
    (B : Below A₀ base [] h₀) (F : Fr h₀ L s.heap m) (X : (Mine.hd.heap_39 w.params).In h₀) (N : News h₀ L s.heap news) (T : Top Mine.hd.view_39 loose mean mg mb h₀)
    (XB : (Mine.hd.heap_39 w.params).In base) (TB : Top Mine.hd.view_39 loose mean mg mb base) (hk : cs.kind = .function)
    (hd : dp + k < recursionLimit) (hu : un + 8 * k < cLine)
    (ret : ∀ v news' h' tk', R v news' → Fr h₀ L h' m → News h₀ L h' news' → Q v { s with heap := h', toks := tk' }) :
    wpAny (model theProg w) (ktrTop dp un gd cn cs L a ccd [] []) (call (.ref f) vs) Q E s :=
  C.use B F X N T XB TB dicts0 hk hd hu fun v news' h' tk' _ hR hT hF hN _ _ _ _ => ret v news' h' tk' hR (back_fr hT hF) (back_news hT hN)
theorem pickI {h₀ h : Heap} {L i b c : Addr} {x y : Int} {ob oc : Obj} {big : List (Addr × Obj)} (N : News h₀ L h ((i, itR x y) :: big)) (h1 : (b, ob) ∈ big) (h2 : (c, oc) ∈ big) : News h₀ L h ((b, ob) :: (c, oc) :: [(i, itR x y)]) := fun p hp => N p (by
  rcases List.mem_cons.mp hp with rfl | hp
  · exact .tail _ h1
  rcases List.mem_cons.mp hp with rfl | hp
  · exact .tail _ h2
  rw [List.mem_singleton.mp hp]
  exact .head _)
noncomputable abbrev lastData (a b c : Int) : PyData := .list [.tuple [.tuple [.int 1, .int 99], .int a], .str (Str.ofString "OV"), .tuple [.tuple [.int 1, .int (-99)], .int b], .tuple [.tuple [.int 0, .int 0], .int c]]
theorem shaped_last : SeqAt.shaped (lastData 4 5 6) = true := by decide +kernel
local macro_rules | `(tactic| ked_shaped) => `(tactic| exact shaped_last)
local macro_rules | `(tactic| ked_read) => `(tactic| exact either_reads (by with_reducible assumption) (in_of (by k_asm) (by k_asm)) (by k_asm) (by k_mem))
theorem unr_mono {h₀ : Heap} {L I : Addr} {s₁ s₂ : Shared} {it : Obj} {r r' : (Str → Option Value) → List (Addr × Obj) → Prop} {Q : Flow → Shared → Prop} {f : Flow} (h : ∀ m n, r m n → r' m n) (p : UnrPost h₀ L s₁ I it r Q f s₂) : UnrPost h₀ L s₁ I it r' Q f s₂ := by
  cases f with
  | ret v => exact p
  | brk => exact p
  | next =>
    obtain ⟨h', tk, m', news', e, F, N, o, q⟩ := p
    exact ⟨h', tk, m', news', e, F, N, o, h _ _ q⟩
  | cont =>
    obtain ⟨h', tk, m', news', e, F, N, o, q⟩ := p
    exact ⟨h', tk, m', news', e, F, N, o, h _ _ q⟩
/-- what holds between two turns of the law's loop -/
noncomputable def TurnOk (w : World) (b cells : Addr) (vs : List Value) (d : Int) (td : Tok) (i : Nat) (m : Str → Option Value) (news : List (Addr × Obj)) : Prop :=
  ∃ ob p tp, news = [(b, ob), (cells, LCg.lst vs)] ∧ Obj.IsDictOf (PySem.strKind theProg w) ob [(Str.ofString "cells", .ref cells), (Str.ofString "place", .int p tp)] ∧ 0 ≤ p ∧ p ≤ 10 + 30 * (i : Int) ∧ m (Str.ofString "bag") = some (.ref b) ∧ m (Str.ofString "digits") = some (.int d td)
theorem range_ind {prog : Program} {w : World} {A : Around} {E : Value → Shared → Prop} {h₀ : Heap} {env : Env} {x : Str} {body : List Stmt} {Q : Flow → Shared → Prop} {s : Shared} {I : Addr} {a : Int} {n : Nat} (P : Nat → (Str → Option Value) → List (Addr × Obj) → Prop)
    (step : ∀ i m news, i < n → P i m news → ∀ t h tk, Fr h₀ env.locals h (fun y => if y = x then some (.int (a + (i : Int)) t) else m y) →
      News h₀ env.locals h ((I, itR (a + ((i + 1 : Nat) : Int)) ((n : Int) - ((i + 1 : Nat) : Int))) :: news) →
      wpAny (model prog w) A (execs body env) (UnrPost h₀ env.locals { s with heap := h, toks := tk } I (itR (a + ((i + 1 : Nat) : Int)) ((n : Int) - ((i + 1 : Nat) : Int))) (P (i + 1)) Q) E { s with heap := h, toks := tk })
    (fin : ∀ m news, P n m news → ∀ h tk, Fr h₀ env.locals h m → News h₀ env.locals h news → Q .next { s with heap := h, toks := tk }) :
    ∀ k i m news, k + i = n → P i m news → RangeRest prog w A E h₀ env x body Q s I a n k i m news
  | 0, i, m, news, e, p => RangeRest.zero (by
      have : i = n := by omega
      subst this
      exact fin m news p)
  | k + 1, i, m, news, e, p => RangeRest.succ fun t h tk F N => wpAny_mono (step i m news (by omega) p t h tk F N) (fun f s₂ q => unr_mono (fun m' n' q' => range_ind P step fin k (i + 1) m' n' (by omega) q') q) fun _ _ e => e
theorem law_turns {w : World} {A : Around} {E : Value → Shared → Prop} {h₀ : Heap} {env : Env} {body : List Stmt} {Q : Flow → Shared → Prop} {s : Shared} {I b cells : Addr} {ob : Obj} {vs : List Value} {p : Int} {tp : Tok} {d : Int} {td : Tok} {m : Str → Option Value}
    (hob : Obj.IsDictOf (PySem.strKind theProg w) ob [(Str.ofString "cells", .ref cells), (Str.ofString "place", .int p tp)]) (hp : 0 ≤ p ∧ p ≤ 10) (hm1 : m (Str.ofString "bag") = some (.ref b)) (hm2 : m (Str.ofString "digits") = some (.int d td))
    (step : ∀ (i : Nat) (m : Str → Option Value) ob p tp, i < 4 → Obj.IsDictOf (PySem.strKind theProg w) ob [(Str.ofString "cells", .ref cells), (Str.ofString "place", .int p tp)] → 0 ≤ p → p ≤ 10 + 30 * (i : Int) → ∀ t h tk,
      Fr h₀ env.locals h (fun y => if y = Str.ofString "turn" then some (.int (0 + (i : Int)) t) else if y = Str.ofString "bag" then some (.ref b) else if y = Str.ofString "digits" then some (.int d td) else m y) →
      News h₀ env.locals h ((I, itR (0 + ((i + 1 : Nat) : Int)) (((4 : Nat) : Int) - ((i + 1 : Nat) : Int))) :: [(b, ob), (cells, LCg.lst vs)]) →
      wpAny (model theProg w) A (execs body env) (UnrPost h₀ env.locals { s with heap := h, toks := tk } I (itR (0 + ((i + 1 : Nat) : Int)) (((4 : Nat) : Int) - ((i + 1 : Nat) : Int))) (TurnOk w b cells vs d td (i + 1)) Q) E { s with heap := h, toks := tk })
    (fin : ∀ (m : Str → Option Value) ob p tp, Obj.IsDictOf (PySem.strKind theProg w) ob [(Str.ofString "cells", .ref cells), (Str.ofString "place", .int p tp)] → ∀ h tk,
      Fr h₀ env.locals h (fun y => if y = Str.ofString "bag" then some (.ref b) else if y = Str.ofString "digits" then some (.int d td) else m y) → News h₀ env.locals h [(b, ob), (cells, LCg.lst vs)] → Q .next { s with heap := h, toks := tk }) :
    RangeRest theProg w A E h₀ env (Str.ofString "turn") body Q s I 0 4 4 0 m [(b, ob), (cells, LCg.lst vs)] := by
  refine range_ind (TurnOk w b cells vs d td) ?_ ?_ 4 0 m _ rfl ⟨ob, p, tp, rfl, hob, hp.1, by omega, hm1, hm2⟩
  · rintro i m news hi ⟨ob, p, tp, rfl, hob, h1, h2, e1, e2⟩ t h tk F N
    refine step i m ob p tp hi hob h1 h2 t h tk ?_ N
    have q : (fun y => if y = Str.ofString "bag" then some (Value.ref b) else if y = Str.ofString "digits" then some (Value.int d td) else m y) = m := by
      funext y
      by_cases q : y = Str.ofString "bag"
      · rw [if_pos q, q, e1]
      · rw [if_neg q]
        by_cases q : y = Str.ofString "digits"
        · rw [if_pos q, q, e2]
        · rw [if_neg q]
    have q2 : (fun y => if y = Str.ofString "turn" then some (Value.int (0 + (i : Int)) t) else if y = Str.ofString "bag" then some (Value.ref b) else if y = Str.ofString "digits" then some (Value.int d td) else m y) = (fun y => if y = Str.ofString "turn" then some (Value.int (0 + (i : Int)) t) else m y) := by
      funext y
      exact congrArg (fun z => if y = Str.ofString "turn" then some (Value.int (0 + (i : Int)) t) else z) (congrFun q y)
    rw [q2]
    exact F
  · rintro m news ⟨ob, p, tp, rfl, hob, h1, h2, e1, e2⟩ h tk F N
    exact fin m ob p tp hob h tk (Fr.see (Fr.see F e2) e1) N
theorem turn_end {w : World} {b cells : Addr} {vs : List Value} {d : Int} {td : Tok} {i : Nat} {m : Str → Option Value} {ob : Obj} {p : Int} {tp : Tok} (hob : Obj.IsDictOf (PySem.strKind theProg w) ob [(Str.ofString "cells", .ref cells), (Str.ofString "place", .int p tp)]) (h1 : 0 ≤ p) (h2 : p ≤ 10 + 30 * ((i : Nat) : Int))
    (e1 : m (Str.ofString "bag") = some (.ref b)) (e2 : m (Str.ofString "digits") = some (.int d td)) : TurnOk w b cells vs d td i m [(b, ob), (cells, LCg.lst vs)] := ⟨ob, p, tp, rfl, hob, h1, h2, e1, e2⟩
set_option maxRecDepth 100000 in
set_option maxHeartbeats 8000000 in
theorem law_holds : PySem.Challenge.rw_pq0136_01.Holds := Mine.hd (by
  k_with_none
  k_with "call ref" => (k_here; (with_reducible show wpAny _ _ (call (Value.ref 80) [Value.str _ _, Value.int _ _]) _ _ _); k_dflt (refine' TellX.use (text_tell _ _ _ _ _ ?p1 ?p2 ?p3 _) ?k1 ?k2 ?k3 ?k4 ?k5 ?kK ?kd ?ku ?_ ?px; (case k1 => k_asm); (case k2 => k_asm); (case k3 => k_asm); (case k4 => k_asm); (case k5 => k_asm); (case kK => exact rfl); (case p1 => decide); (case p2 => first | exact lit1.len | exact lit2.len | exact lit3.len); (case p3 => first | exact lit1.few | exact lit2.few | exact lit3.few); (case px => first | exact fun h => lit1.noOV h | exact fun h => lit2.noOV h | exact fun h => lit3.noOV h); (case kd => ktr_room); (case ku => ktr_units)); (intro v9 news9 h9 tk9 hR9 F9 N9; (first | (have z9 := lit1.shape (by decide) hR9) | (have z9 := lit2.shape (by decide) hR9) | (have z9 := lit3.shape (by decide) hR9)); obtain ⟨q9, q8, tg9, t9, t8, hv9, l9', lq9, l8', hn9⟩ := z9; subst hv9 hn9; (try simp only [AllLt, and_true] at l9'); (try simp only [AllLt, and_true] at l8'); (try dsimp only)))
  k_with "call ref" => (k_here; (with_reducible show wpAny _ _ (call (Value.ref 94) [Value.ref _, Value.int _ _]) _ _ _); k_dflt (refine' TellX.use (rat_tell _ _ _ _ _ _ _ _ _ _ ?q1 ?q2 ?q3 ?q4 ?q5 ?q6 ?q7 [] ?q8 ?q9) ?k1 ?k2 ?k3 ?k4 ?k5 ?kK ?kd ?ku ?_ (fun h => h.elim); (case k1 => k_asm); (case k2 => k_asm); (case k3 => k_asm); (case k5 => k_asm); (case kK => exact rfl); (case q3 => exact bag_start (by with_reducible assumption)); (case k4 => (refine pick0 (by with_reducible assumption) ?_ ?_ ?_); (focus (repeat (first | exact List.Mem.head _ | refine List.Mem.tail _ ?_))); (focus (repeat (first | exact List.Mem.head _ | refine List.Mem.tail _ ?_))); (focus exact sub0)); (case q1 => with_reducible assumption); (case q2 => exact cells_len); (case q8 => first | with_reducible assumption | exact And.right (by with_reducible assumption)); (case q9 => exact hb0); (case q4 => omega); (case q5 => omega); (case q6 => first | decide | omega); (case q7 => first | decide | omega); (case kd => ktr_room); (case ku => ktr_units)); intro v9 news9 h9 tk9 hR9 F9 N9; obtain ⟨r9, t9, t9', ob9, hv9, e9, e9', e9'', hn9⟩ := hR9; subst hv9 hn9; (try dsimp only))
  k_with "call ref" => (k_here; (with_reducible show wpAny _ _ (call (Value.ref 122) [Value.ref _, Value.int _ _]) _ _ _); k_dflt (refine' TellS.use0 (case_tell _ _ _ _ _ _ _ _ _ _ ?q1 ?q2 ?q3 ?q4 ?q5 ?q6 ?q7 _ ?q8 ?q9) ?k1 ?k2 ?k3 ?k4 ?k5 ?k6 ?k7 ?kK ?kd ?ku ?_; (case k1 => k_asm); (case k2 => k_asm); (case k3 => k_asm); (case k5 => k_asm); (case kK => exact rfl); (case q3 => with_reducible assumption); (case k4 => (refine pickI (by with_reducible assumption) ?_ ?_); (focus (repeat (first | exact List.Mem.head _ | refine List.Mem.tail _ ?_))); (focus (repeat (first | exact List.Mem.head _ | refine List.Mem.tail _ ?_)))); (case q1 => with_reducible assumption); (case q2 => exact cells_len); (case q8 => first | with_reducible assumption | exact And.right (by with_reducible assumption)); (case q9 => exact hb_cons (Nat.ne_of_gt (by first | exact And.left (by with_reducible assumption) | exact And.left (And.right (by with_reducible assumption)) | exact And.right (by with_reducible assumption))) hb0); (case k6 => first | with_reducible assumption | k_asm); (case k7 => first | with_reducible assumption | k_asm); (case q4 => omega); (case q5 => omega); (case q6 => omega); (case q7 => omega); (case kd => ktr_room); (case ku => ktr_units)); intro v9 news9 h9 tk9 hR9 F9 N9; unfold RCase at hR9; obtain ⟨p9, tp9, ob9, hv9, e9, e9', e9'', hn9⟩ := hR9; subst hv9 hn9; (try dsimp only))
  k_with "call ref" => (k_here; (with_reducible show wpAny _ _ (call (Value.ref 115) [Value.str _ _, Value.int _ _]) _ _ _); k_dflt (refine' TellS.use0 (heard_tell _ _ _ _ _ ?p1 ?p2 ?p3 _) ?k1 ?k2 ?k3 ?k4 ?k5 ?k6 ?k7 ?kK ?kd ?ku ?_; (case k1 => k_asm); (case k2 => k_asm); (case k3 => k_asm); (case k4 => k_asm); (case k5 => k_asm); (case k6 => first | with_reducible assumption | k_asm); (case k7 => first | with_reducible assumption | k_asm); (case kK => exact rfl); (case p1 => decide); (case p2 => first | exact lit4.len | exact lit5.len | exact lit6.len | exact lit7.len); (case p3 => first | exact lit4.few | exact lit5.few | exact lit6.few | exact lit7.few); (case kd => ktr_room); (case ku => ktr_units)); (intro v9 news9 h9 tk9 hR9 F9 N9; (first | ((have z9 := lit4.heard (by decide) hR9); obtain ⟨q9, q8, tg9, t9, t8, hv9, l9', lq9, l8', hn9⟩ := z9; subst hv9 hn9; (try simp only [AllLt, and_true] at l9'); (try simp only [AllLt, and_true] at l8')) | ((have z9 := lit5.heard (by decide) hR9); obtain ⟨q9, q8, tg9, t9, t8, hv9, l9', lq9, l8', hn9⟩ := z9; subst hv9 hn9; (try simp only [AllLt, and_true] at l9'); (try simp only [AllLt, and_true] at l8')) | ((have z9 := lit7.heard hR9); obtain ⟨t9, hv9, hn9⟩ := z9; subst hv9 hn9) | ((have z9 := lit6.either hR9); obtain ⟨q9, r9, r8, o8, tg9, hv9, l9', hr9, hs9⟩ := z9; subst hv9; (replace N9 := news_sub N9 hs9); clear hs9 hR9; (try simp only [AllLt, and_true] at l9')))); (try dsimp only))
  k_with "RangeRest" => (k_dflt (refine law_turns (by with_reducible assumption) ⟨by omega, by omega⟩ rfl rfl ?_ ?_); (intro i9 m9 ob9 p9 tp9 hi9 hob9 hp9 hp9' t9 h9 tk9 F9 N9; (try dsimp only)); rotate_left; (intro m9 ob9 p9 tp9 hob9 h9 tk9 F9 N9; (try dsimp only)); rotate_left)
  k_go0
  (with_reducible show wpAny _ _ _ _ _ _)
  k_fold
  k_steps
  all_goals (refine turn_end (by with_reducible assumption) ?_ ?_ rfl rfl <;> omega))
end Mine
theorem PySem.Challenge.cw_pq0136_01_holds : PySem.Challenge.rw_pq0136_01.Holds :=
  Mine.law_holds
