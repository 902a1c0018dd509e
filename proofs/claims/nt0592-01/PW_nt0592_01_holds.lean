import PyProof.Rows.All
import Wide.All
import OpenK.AllK
import Wide.FinOn
import Lean
import PySem.Challenge.RW_nt0592_01
open PySem PySem.W PyProof.Rows PySem.Spec PySem.Calls
set_option Elab.async false
set_option maxRecDepth 100000
set_option maxHeartbeats 8000000
set_option linter.all false
namespace Mine
open_top hd for PySem.Challenge.rw_nt0592_01
open KStt (codes)
-- the rows said by k_with are asked first
local macro_rules | `(tactic| walk_at $s:str) => `(tactic| k_extra $s)
-- name the token count before each statement
theorem kw : True := by
  k_with "execs cons" => (k_here; dsimp only; k_gentoks)
  k_with "spliced" => (k_here; first
    | refine args_cons ?_
    | refine args_nil ⟨Fr.keep (by assumption) _ _ (by assumption), ?_⟩
    | (refine args_nil ?_; try simp only [List.cons_append, List.nil_append]))
  trivial

-- text Base
/-- a contract of a def of the text, generic in heap, frame and ledger -/
noncomputable def CtL {α : Type} (w : World) (n : Nat) (f : Addr) (pre : List (Addr × Obj)) (P : Prop) (vs : List Value) (G : α → Prop) (R : α → Tok → Value) : Prop :=
  ∀ (mean : ExcName → Option Value) (mg mb : Str → Option Value) (news : List (Addr × Obj)) (dp un : Nat) (gd : Option (List Code)) (cn : Str) (cs : Scope) (a : Addr) (ccd : Value) (cl : List (Str × Addr)) (outer : List Env) (A₀ : Around) (base h₀ : Heap) (L : Addr) (m : Str → Option Value) (s : Shared) (Q E : Value → Shared → Prop),
    Below A₀ base outer h₀ → Fr h₀ L s.heap m → (hd.heap_39 w.params).In h₀ → News h₀ L s.heap (pre ++ news) → Top hd.view_39 (looseW hd.view_39 []) mean mg mb h₀ → cs.kind = .function →
    dp + n < recursionLimit → un + 8 * n < cLine → P →
    (∀ (x : α) (t : Tok) (h' : Heap) (tk' : Nat), G x → Fr h₀ L h' m → News h₀ L h' (pre ++ news) → Q (R x t) { s with heap := h', toks := tk' }) →
      wpAny (model PySem.Challenge.rw_nt0592_01.row.prog w) (ktrTop dp un gd cn cs L a ccd cl outer) (call (.ref f) vs) Q E s
abbrev Ct {α : Type} (w : World) (n : Nat) (f : Addr) (P : Prop) (vs : List Value) (G : α → Prop) (R : α → Tok → Value) : Prop := CtL w n f [] P vs G R
theorem useCt {α : Type} {w : World} {n : Nat} {f : Addr} {pre : List (Addr × Obj)} {P : Prop} {vs : List Value} {G : α → Prop} {R : α → Tok → Value} (C : CtL w n f pre P vs G R)
    {mean : ExcName → Option Value} {mg mb : Str → Option Value} {news : List (Addr × Obj)} {dp un : Nat} {gd : Option (List Code)} {cn : Str} {cs : Scope} {a : Addr} {ccd : Value} {cl : List (Str × Addr)} {outer : List Env} {A₀ : Around} {base h₀ : Heap} {L : Addr} {m : Str → Option Value} {s : Shared} {Q E : Value → Shared → Prop}
    (k1 : Below A₀ base outer h₀) (k2 : Fr h₀ L s.heap m) (k3 : (hd.heap_39 w.params).In h₀) (k4 : News h₀ L s.heap (pre ++ news)) (k5 : Top hd.view_39 (looseW hd.view_39 []) mean mg mb h₀) (kK : cs.kind = .function)
    (kd : dp + n < recursionLimit) (ku : un + 8 * n < cLine) (kp : P)
    (kR : ∀ (x : α) (t : Tok) (h' : Heap) (tk' : Nat), G x → Fr h₀ L h' m → News h₀ L h' (pre ++ news) → Q (R x t) { s with heap := h', toks := tk' }) :
    wpAny (model PySem.Challenge.rw_nt0592_01.row.prog w) (ktrTop dp un gd cn cs L a ccd cl outer) (call (.ref f) vs) Q E s :=
  C _ _ _ _ _ _ _ _ _ _ _ _ _ _ _ _ _ _ _ _ _ k1 k2 k3 k4 k5 kK kd ku kp kR
theorem useCt0 {α : Type} {w : World} {n : Nat} {f : Addr} {P : Prop} {vs : List Value} {G : α → Prop} {R : α → Tok → Value} (C : CtL w n f [] P vs G R)
    {mean : ExcName → Option Value} {mg mb : Str → Option Value} {news : List (Addr × Obj)} {dp un : Nat} {gd : Option (List Code)} {cn : Str} {cs : Scope} {a : Addr} {ccd : Value} {cl : List (Str × Addr)} {outer : List Env} {A₀ : Around} {base h₀ : Heap} {L : Addr} {m : Str → Option Value} {s : Shared} {Q E : Value → Shared → Prop}
    (k1 : Below A₀ base outer h₀) (k2 : Fr h₀ L s.heap m) (k3 : (hd.heap_39 w.params).In h₀) (k4 : News h₀ L s.heap news) (k5 : Top hd.view_39 (looseW hd.view_39 []) mean mg mb h₀) (kK : cs.kind = .function)
    (kd : dp + n < recursionLimit) (ku : un + 8 * n < cLine) (kp : P)
    (kR : ∀ (x : α) (t : Tok) (h' : Heap) (tk' : Nat), G x → Fr h₀ L h' m → News h₀ L h' news → Q (R x t) { s with heap := h', toks := tk' }) :
    wpAny (model PySem.Challenge.rw_nt0592_01.row.prog w) (ktrTop dp un gd cn cs L a ccd cl outer) (call (.ref f) vs) Q E s :=
  C _ _ _ _ _ _ _ _ _ _ _ _ _ _ _ _ _ _ _ _ _ k1 k2 k3 k4 k5 kK kd ku kp kR
section
variable {α : Type} {h₀ h' : Heap} {L : Addr} {m : Str → Option Value} {news news' : List (Addr × Obj)} {s : Shared} {Q : Value → Shared → Prop} {G : α → Prop} {R : α → Tok → Value}
theorem retCt (hret : ∀ (x : α) (t : Tok) (h' : Heap) (tk' : Nat), G x → Fr h₀ L h' m → News h₀ L h' news → Q (R x t) { s with heap := h', toks := tk' })
    (x : α) {t : Tok} {tk' : Nat} (F : Fr h₀ L h' m) (N : News h₀ L h' news') (hs : ∀ p ∈ news, p ∈ news') (g : G x) : Q (R x t) { s with heap := h', toks := tk' } :=
  hret x t h' tk' g F (cb_drop N hs)
end
section
variable {prog : Program} {w : World} {A : Around} {E : Value → Shared → Prop} {s : Shared} {env : Env} {h₀ : Heap} {x : Str} {body : List Stmt} {Q : Flow → Shared → Prop} {m₀ : Str → Option Value} {news : List (Addr × Obj)} {d : Addr} {xt : Str} {tx : Tok}
/-- the end of a turn that appended one text to the list at d -/
noncomputable def AppEnd (h₀ : Heap) (L : Addr) (x : Str) (m₀ : Str → Option Value) (d : Addr) (us : List Value) (k : Nat) (rest : List (Addr × Obj)) (y : Str) (s₁ : Shared) (f : Flow) (s₂ : Shared) : Prop :=
  f = .next ∧ ∃ t' h' tk' m', s₂ = { s₁ with heap := h', toks := tk' } ∧ Fr h₀ L h' m' ∧ (∀ z, z ≠ x → m' z = m₀ z) ∧ News h₀ L h' ((d, listOf (us.toArray.push (.str y t')) (k + 1)) :: rest)
theorem for_text_append (f : Nat → Str) (hh : A.handled = none) (F : Fr h₀ env.locals s.heap m₀) (N : News h₀ env.locals s.heap ((d, listOf #[] 0) :: news)) (hlt : ∀ p ∈ news, p.1 < d)
    (turn : ∀ (n : Nat) t us k h tk own, (n : Int) ∈ KStt.codes xt → (∀ p ∈ news ++ own, p.1 ≠ d) → us.length ≤ xt.length → Fr h₀ env.locals h (fun y => if y = x then some (.str ⟨#[n]⟩ t) else m₀ y) → News h₀ env.locals h ((d, listOf us.toArray k) :: (news ++ own)) →
      wpAny (model prog w) A (execs body env) (AppEnd h₀ env.locals x m₀ d us k (news ++ own) (f n) { s with heap := h, toks := tk }) E { s with heap := h, toks := tk })
    (done : ∀ us k (u : Str → Option Value) h tk, StrsAre us ((KStt.codes xt).map fun c => f c.toNat) → Fr h₀ env.locals h (fun y => if y = x then u y else m₀ y) → News h₀ env.locals h ((d, listOf us.toArray k) :: news) → Q .next { s with heap := h, toks := tk }) :
    wpAny (model prog w) A (pyIter (.str xt tx)) (fun it s₂ => LoopAtV prog w A h₀ env x body Q E it s₂) E s := by
  refine KStt.kst_text (σ := List Value × Nat) (fun c => (d, listOf c.1.toArray c.2) :: news) (fun _ => []) (fun _ => True) [] (fun pre c => StrsAre c.1 (pre.map fun k => f k.toNat)) ([], 0) hh F N trivial (fun _ hp => nomatch hp) .nil ?_ ?_
  · intro c pre post n t u h tk own hc hoff _ hP F₁ N₁
    have hmem : (n : Int) ∈ KStt.codes xt := by rw [hc]; exact List.mem_append.mpr (.inr (.head _))
    have hlen : c.1.length ≤ xt.length := by
      have e1 : c.1.length = pre.length := by
        have := hP.length; rwa [List.length_map] at this
      have e2 := congrArg List.length hc
      rw [KStt.codes_length, List.length_append] at e2
      omega
    have hne : ∀ p ∈ news ++ own, p.1 ≠ d := by
      intro p hp
      rcases List.mem_append.mp hp with hp | hp
      · exact Nat.ne_of_lt (hlt p hp)
      · exact hoff p hp d (.head _)
    refine wpAny_mono (turn n t c.1 c.2 h tk own hmem hne hlen F₁ N₁) (fun fl s₂ hq => ?_) fun _ _ e => e
    obtain ⟨rfl, t', h', tk', m', rfl, F', hm, N'⟩ := hq
    show InvEndN _ _ _ _ _ _ _
    refine kst_end (c.1 ++ [.str (f n) t'], c.2 + 1) F' N' ?_ ?_ rfl trivial (fun _ hp => nomatch hp) (fun z hz _ _ => hm z hz) ?_
    · intro p hp
      rcases List.mem_cons.mp hp with rfl | hp
      · refine List.mem_cons.mpr (.inl ?_)
        rw [List.push_toArray]
      · exact List.mem_cons.mpr (.inr (List.mem_append.mpr (.inl hp)))
    · intro p hp
      exact List.mem_cons.mpr (.inr (List.mem_append.mpr (.inr hp)))
    · show StrsAre (c.1 ++ [.str (f n) t']) ((pre ++ [(n : Int)]).map fun k => f k.toNat)
      rw [List.map_append]
      exact KStt.strs_snoc hP
  · intro c u h tk _ hP F₁ N₁
    exact done c.1 c.2 u h tk hP F₁ N₁
end
theorem kw1 : True := by
  k_with "BEGIN" => ((try unfold Ct); unfold CtL; (simp only [List.nil_append, List.cons_append]); k_fill)
  k_with "ENTER" => (refine wpAny_call ?_; first
  | cell_enter
  | (refine' code_defC ?k1 ?k2 ?k3 ?k4 ?k5 ?kA ?kF ?kK ?k6 ?k7 ?k8 ?k9 ?kB ?kD ?_ ?c2 ?c3 ?c4; (case kA => exact rfl); (case kF => exact rfl); (case kK => assumption); (case k1 => k_asm); (case k2 => k_asm); (case k3 => k_asm); (case k4 => k_asm); (case k5 => k_asm); (case k6 => k_is); (case k7 => k_is); (case k8 => ktr_room); (case k9 => exact BindsTo.of_eq rfl); (case kB => exact rfl); (case kD => decide +kernel); (case c2 => exact rfl); (case c3 => exact rfl); (case c4 => exact rfl); k_whole; intro g' L' h' tk' cells' FG' F' N' Y' B' X' T' l1; (try k_lt l1); k_cells Y'; (try simp only [List.cons_append, List.nil_append] at N'); (try dsimp only); (try k_lift B'); (try k_fold)))
  trivial

-- text Plain
/-- where a run of signs that p holds of ends, from place a on -/
noncomputable def runEnd (p : Int → Bool) (ks : List Int) (a : Int) : Int := a + (((ks.drop a.toNat).takeWhile p).length : Int)
theorem runEnd_step {p : Int → Bool} {ks : List Int} {a : Int} (h0 : 0 ≤ a) (h1 : a < (ks.length : Int)) (hp : p (ks.getD a.toNat 0) = true) : runEnd p ks (a + 1) = runEnd p ks a := by
  have e : a.toNat < ks.length := by omega
  have e2 : (a + 1).toNat = a.toNat + 1 := by omega
  have e3 : ks.getD a.toNat 0 = ks[a.toNat] := by simp [List.getD, e]
  unfold runEnd
  rw [e2, List.drop_eq_getElem_cons e, List.takeWhile_cons, ← e3, if_pos hp, List.length_cons]
  omega
theorem runEnd_out {p : Int → Bool} {ks : List Int} {a : Int} (h1 : (ks.length : Int) ≤ a) : runEnd p ks a = a := by
  unfold runEnd
  rw [List.drop_eq_nil_of_le (by omega)]
  simp
theorem runEnd_stop {p : Int → Bool} {ks : List Int} {a : Int} (h0 : 0 ≤ a) (h1 : a < (ks.length : Int)) (hp : p (ks.getD a.toNat 0) = false) : runEnd p ks a = a := by
  have e : a.toNat < ks.length := by omega
  have e3 : ks.getD a.toNat 0 = ks[a.toNat] := by simp [List.getD, e]
  unfold runEnd
  rw [List.drop_eq_getElem_cons e, List.takeWhile_cons, ← e3, if_neg (by rw [hp]; decide)]
  simp
theorem runEnd_ge (p : Int → Bool) (ks : List Int) (a : Int) : a ≤ runEnd p ks a := by unfold runEnd; omega
theorem runEnd_le {p : Int → Bool} {ks : List Int} {a : Int} (h0 : 0 ≤ a) (h : a ≤ (ks.length : Int)) : runEnd p ks a ≤ ks.length := by
  unfold runEnd
  have := (List.takeWhile_sublist p (l := ks.drop a.toNat)).length_le
  rw [List.length_drop] at this
  omega
noncomputable def isLow (k : Int) : Bool := decide (k ≤ 32)
noncomputable def isNot (v k : Int) : Bool := decide (k ≠ v)
theorem skip_turn {ks : List Int} {a at0 : Int} (h : 0 ≤ a ∧ a ≤ 2000 ∧ runEnd isLow ks a = runEnd isLow ks at0) (hl : ks.length ≤ 1000) (h1 : a < (ks.length : Int)) (h2 : ks.getD a.toNat 0 ≤ 32) :
    0 ≤ a + 1 ∧ a + 1 ≤ 2000 ∧ runEnd isLow ks (a + 1) = runEnd isLow ks at0 :=
  ⟨by omega, by omega, (runEnd_step h.1 h1 (by simp only [isLow]; exact decide_eq_true h2)).trans h.2.2⟩
theorem skip_end {ks : List Int} {a at0 : Int} (h0 : 0 ≤ a) (h : runEnd isLow ks a = runEnd isLow ks at0) (h1 : ¬ a < (ks.length : Int) ∨ (a < (ks.length : Int) ∧ ¬ ks.getD a.toNat 0 ≤ 32)) : a = runEnd isLow ks at0 := by
  rw [← h]
  rcases h1 with h1 | ⟨h1, h2⟩
  · exact (runEnd_out (by omega)).symm
  · exact (runEnd_stop h0 h1 (by simp only [isLow]; exact decide_eq_false h2)).symm
theorem seek_turn {ks : List Int} {a at0 v : Int} (h : 0 ≤ a ∧ a ≤ 2000 ∧ runEnd (isNot v) ks a = runEnd (isNot v) ks at0) (hl : ks.length ≤ 1000) (h1 : a < (ks.length : Int)) (h2 : ([v].any fun x => x == ks.getD a.toNat 0) = false) :
    0 ≤ a + 1 ∧ a + 1 ≤ 2000 ∧ runEnd (isNot v) ks (a + 1) = runEnd (isNot v) ks at0 :=
  ⟨by omega, by omega, (runEnd_step h.1 h1 (by simp only [isNot]; simp only [List.any_cons, List.any_nil, Bool.or_false, beq_eq_false_iff_ne, ne_eq] at h2; exact decide_eq_true (Ne.symm h2))).trans h.2.2⟩
theorem seek_end {ks : List Int} {a at0 v : Int} (h0 : 0 ≤ a) (h : runEnd (isNot v) ks a = runEnd (isNot v) ks at0) (h1 : ¬ a < (ks.length : Int) ∨ (a < (ks.length : Int) ∧ ([v].any fun x => x == ks.getD a.toNat 0) = true)) : a = runEnd (isNot v) ks at0 := by
  rw [← h]
  rcases h1 with h1 | ⟨h1, h2⟩
  · exact (runEnd_out (by omega)).symm
  · refine (runEnd_stop h0 h1 ?_).symm
    simp only [List.any_cons, List.any_nil, Bool.or_false, beq_iff_eq] at h2
    simp only [isNot, ← h2]
    exact decide_eq_false (fun q => q rfl)
noncomputable def lowN (n : Nat) : Nat := if 65 ≤ n ∧ n ≤ 90 then n + 32 else n
noncomputable def one (n : Nat) : Str := ⟨#[n]⟩
theorem strA : (Str.ofString "A").cps.toList = [65] := by decide +kernel
theorem strZ : (Str.ofString "Z").cps.toList = [90] := by decide +kernel
theorem lt_one (a b : Nat) : ([a] < [b]) ↔ a < b := by
  rw [List.cons_lt_cons_iff]; simp
theorem upper_end1 {n : Nat} (h : (one n).cps.toList < (Str.ofString "A").cps.toList) : (!decide ((one n).cps.toList < (Str.ofString "A").cps.toList)) = decide (65 ≤ n ∧ n ≤ 90) := by
  rw [decide_eq_true h]
  rw [strA] at h
  have h' : n < 65 := (lt_one n 65).mp h
  exact (decide_eq_false (by omega)).symm
theorem upper_end2 {n : Nat} (h : ¬ (one n).cps.toList < (Str.ofString "A").cps.toList) : (!decide ((Str.ofString "Z").cps.toList < (one n).cps.toList)) = decide (65 ≤ n ∧ n ≤ 90) := by
  rw [strA] at h
  rw [strZ]
  have h' : ¬ n < 65 := fun q => h ((lt_one n 65).mpr q)
  have e : ([90] < (one n).cps.toList) ↔ 90 < n := lt_one 90 n
  by_cases q : 90 < n
  · rw [decide_eq_true (e.mpr q)]; exact (decide_eq_false (by omega)).symm
  · rw [decide_eq_false (fun z => q (e.mp z))]; exact (decide_eq_true (by omega)).symm
noncomputable def mkT (l : List Nat) : Str := ⟨l.toArray⟩
theorem mkT_len (l : List Nat) : (mkT l).length = l.length := by show l.toArray.size = _; simp
theorem empty_app' (a : Str) : a ++ Str.ofString "" ++ b = a ++ b := by
  have e : Str.ofString "" = Str.empty := by decide +kernel
  rw [e, Str.append_empty]
theorem join_flat : ∀ ys : List Str, Txt.join (Str.ofString "") ys = mkT (ys.flatMap fun y => y.cps.toList) := by
  intro ys
  show Builtin.Str.glued (Str.ofString "") ys = _
  rw [StrLaws.glued_eq_join]
  induction ys with
  | nil => rfl
  | cons a r ih =>
    cases r with
    | nil =>
      show a = mkT (List.flatMap _ [a])
      refine Str.ext' ?_
      show a.cps = (List.flatMap _ [a]).toArray
      simp
    | cons b r' =>
      show a ++ Str.ofString "" ++ Str.join (Str.ofString "") (b :: r') = _
      rw [empty_app', ih, List.flatMap_cons (x := a)]
      refine Str.ext' ?_
      show a.cps ++ (List.flatMap (fun y : Str => y.cps.toList) (b :: r')).toArray = (a.cps.toList ++ List.flatMap (fun y : Str => y.cps.toList) (b :: r')).toArray
      rw [← List.append_toArray]
theorem join_one {α : Type} (l : List α) (f : α → Nat) : Txt.join (Str.ofString "") (l.map fun k => one (f k)) = mkT (l.map f) := by
  rw [join_flat, List.flatMap_map]
  congr 1
  induction l with
  | nil => rfl
  | cons a r ih => rw [List.flatMap_cons, ih]; rfl
section
variable {prog : Program} {w : World} {A : Around} {E : Value → Shared → Prop} {s : Shared} {t : Tok} {Q : Value → Shared → Prop} {D : Addr} {us : List Value} {ys : List Str} {h₀ : Heap} {L : Addr} {news : List (Addr × Obj)} {k : Nat}
theorem join_is {z : Str} (B : Nat) (N : News h₀ L s.heap news) (hm : (D, listOf us.toArray k) ∈ news) (hS : StrsAre us ys) (hB : ∀ y ∈ ys, y.length ≤ B) (hn : ys.length * (B + 1) ≤ 1048576) (hz : Txt.join (Str.ofString "") ys = z)
    (h : ∀ t' k, Q (.str z t') { s with toks := k }) : wpAny (model prog w) A (call (.builtin "str.join") [.str (Str.ofString "") t, .ref D]) Q E s := by
  subst hz
  refine join_listW (items := us.toArray) (News.isList N hm) (by simpa using hS) (by decide +kernel) ?_ h
  have := StrLaws.sumLen_le ys hB
  rw [Nat.mul_add, Nat.mul_one] at hn
  omega
end
theorem codes_txt {ks : List Int} (h : ∀ k ∈ ks, 0 ≤ k ∧ k < 256) : KStt.codes (KStt.txt ks) = ks := by
  unfold KStt.codes KStt.txt
  rw [List.map_map]
  refine (List.map_congr_left (g := fun k => k) fun k hk => ?_).trans (List.map_id' _)
  have := h k hk
  show ((k.toNat : Nat) : Int) = k
  omega
theorem txt_fine {ks : List Int} (hl : ks.length ≤ 1000) (h : ∀ k ∈ ks, 0 ≤ k ∧ k < 256) : (KStt.txt ks).length ≤ 1000 ∧ ∀ k ∈ KStt.codes (KStt.txt ks), 0 ≤ k ∧ k < 256 := by
  rw [codes_txt h, KStt.txt_length]
  exact ⟨hl, h⟩
theorem ints_256 {b : Array UInt8} {ks : List Int} (h : KBw.bInts b = ks) : ∀ k ∈ ks, 0 ≤ k ∧ k < 256 := fun k hk => KBw.ints_in (b := b) (by rw [h]; exact hk)
noncomputable def splitL (c : Nat) : List Nat → List (List Nat)
  | [] => [[]]
  | a :: l => if a = c then [] :: splitL c l else match splitL c l with
    | [] => [[a]]
    | p :: r => (a :: p) :: r
theorem splitL_free {c : Nat} : ∀ {p : List Nat}, c ∉ p → splitL c p = [p]
  | [], _ => rfl
  | a :: p, h => by
    have h1 : a ≠ c := fun e => h (by rw [e]; exact List.mem_cons_self)
    have h2 : c ∉ p := fun e => h (List.mem_cons_of_mem _ e)
    rw [splitL, if_neg h1, splitL_free h2]
theorem splitL_app {c : Nat} {l : List Nat} : ∀ {p : List Nat}, c ∉ p → splitL c (p ++ c :: l) = p :: splitL c l
  | [], _ => by simp [splitL]
  | a :: p, h => by
    have h1 : a ≠ c := fun e => h (by rw [e]; exact List.mem_cons_self)
    have h2 : c ∉ p := fun e => h (List.mem_cons_of_mem _ e)
    show splitL c (a :: (p ++ c :: l)) = _
    rw [splitL, if_neg h1, splitL_app h2]
theorem splitL_join {c : Nat} : ∀ (p : Str) (r : List Str), (∀ q ∈ p :: r, c ∉ q.cps.toList) → splitL c (Str.join ⟨#[c]⟩ (p :: r)).cps.toList = (p :: r).map fun q => q.cps.toList
  | p, [], h => splitL_free (h p List.mem_cons_self)
  | p, q :: r, h => by
    have ih := splitL_join q r fun z hz => h z (List.mem_cons_of_mem _ hz)
    show splitL c (p ++ ⟨#[c]⟩ ++ Str.join ⟨#[c]⟩ (q :: r)).cps.toList = _
    have e : (p ++ ⟨#[c]⟩ ++ Str.join ⟨#[c]⟩ (q :: r)).cps.toList = p.cps.toList ++ c :: (Str.join ⟨#[c]⟩ (q :: r)).cps.toList := by
      rw [Str.cps_append, Str.cps_append, Array.toList_append, Array.toList_append, List.append_assoc]; rfl
    rw [e, splitL_app (h p List.mem_cons_self), ih]
    rfl
theorem split_ne (x y : Str) : ∃ p r, Txt.split x y = p :: r := by
  unfold Txt.split
  split
  · exact ⟨_, _, rfl⟩
  · split
    · exact ⟨_, _, rfl⟩
    · rw [StrLaws.partsBetween_eq]; exact StrLaws.partsFrom_ne _ _ _ _
theorem split_is (x : Str) (c : Nat) : (Txt.split x ⟨#[c]⟩).map (fun q => q.cps.toList) = splitL c x.cps.toList := by
  obtain ⟨p, r, e⟩ := split_ne x ⟨#[c]⟩
  have h1 := StrLaws.join_split x ⟨#[c]⟩
  have h2 := StrLaws.split_free x c
  rw [e] at h1 h2 ⊢
  rw [← splitL_join p r h2, h1]
theorem mkT_toList (x : Str) : mkT x.cps.toList = x := Str.ext' (by show x.cps.toList.toArray = x.cps; simp)
theorem split_mk (x : Str) (c : Nat) : Txt.split x ⟨#[c]⟩ = (splitL c x.cps.toList).map mkT := by
  rw [← split_is, List.map_map]
  exact ((List.map_congr_left (g := fun q => q) fun q _ => mkT_toList q).trans (List.map_id' _)).symm
theorem runEnd_hi {p : Int → Bool} {ks : List Int} {a : Int} (h0 : 0 ≤ a) : runEnd p ks a ≤ a ∨ runEnd p ks a ≤ (ks.length : Int) := by
  rcases Int.le_total (ks.length : Int) a with h | h
  · exact .inl (Int.le_of_eq (runEnd_out h))
  · exact .inr (runEnd_le h0 h)
theorem run_facts {p : Int → Bool} {ks : List Int} {x a : Int} (h0 : 0 ≤ a) (h : x = runEnd p ks a) : x = runEnd p ks a ∧ a ≤ x ∧ (x ≤ a ∨ x ≤ (ks.length : Int)) := by
  subst h
  exact ⟨rfl, runEnd_ge _ _ _, runEnd_hi h0⟩

-- text C1
theorem is_upper_c (w : World) (n : Nat) (t : Tok) : Ct w 2 28 True [.str (one n) t] (fun x => x = decide (65 ≤ n ∧ n ≤ 90)) (fun x _ => .bool x) := by
  walk_at "BEGIN"; intro mean mg mb news dp un gd cn cs a ccd cl outer A₀ base h₀ L m s Q E B F X N T hk hd hu hp hret
  walk_at "ENTER"
  k_steps
  · exact retCt hret _ (t := 0) (by assumption) (by assumption) (fun _ hp => hp) (upper_end1 (by assumption))
  · exact retCt hret _ (t := 0) (by assumption) (by assumption) (fun _ hp => hp) (upper_end2 (by assumption))
theorem kw2 : True := by
  k_with "call ref" => (k_here; (refine' useCt0 (is_upper_c _ _ _) (by k_asm) (by k_asm) (by k_asm) (by k_asm) (by k_asm) (by exact rfl) (by ktr_room) (by ktr_units) (by trivial) ?_); intro x' t' h' tk' g' F' N'; subst g'; (try dsimp only); (try k_sweep); (try k_fold))
  trivial

theorem lower_c (w : World) (n : Nat) (t : Tok) : Ct w 4 35 (n < 256) [.str (one n) t] (fun x => x = one (lowN n)) (fun x t => .str x t) := by
  walk_at "BEGIN"; intro mean mg mb news dp un gd cn cs a ccd cl outer A₀ base h₀ L m s Q E B F X N T hk hd hu hp hret
  walk_at "ENTER"
  k_steps
  · exact retCt hret _ (by assumption) (by assumption) (fun _ hp => hp) (by unfold lowN; rw [if_pos (by assumption)]; rfl)
  · exact retCt hret _ (by assumption) (by assumption) (fun _ hp => hp) (by unfold lowN; rw [if_neg (by assumption)])

-- text C3
theorem skip_low_c (w : World) (b : Array UInt8) (ks : List Int) (at0 : Int) (t t' : Tok) : Ct w 4 82 (KBw.bInts b = ks ∧ ks.length ≤ 1000 ∧ 0 ≤ at0 ∧ at0 ≤ 2000) [.bytes b t, .int at0 t'] (fun x => x = runEnd isLow ks at0 ∧ at0 ≤ x ∧ (x ≤ at0 ∨ x ≤ (ks.length : Int))) (fun x t => .int x t) := by
  walk_at "BEGIN"; intro mean mg mb news dp un gd cn cs a ccd cl outer A₀ base h₀ L m s Q E B F X N T hk hd hu hp hret
  obtain ⟨hb, hl, h0, h1⟩ := hp
  walk_at "ENTER"
  k_with "state" => first | exact ⟨h0, h1, rfl⟩ | exact skip_turn ⟨by assumption, by assumption, by assumption⟩ hl (by assumption) (by assumption)
  k_with "exec While BoolOp cons nil" => k_while (fun _ a => 0 ≤ a ∧ a ≤ 2000 ∧ runEnd isLow ks a = runEnd isLow ks at0) (fun _ a => ((ks.length : Int) - a).toNat) "at"
  k_steps
  all_goals refine retCt hret _ (by assumption) (by assumption) (fun _ hp => hp) (run_facts h0 (skip_end (by assumption) (by assumption) ?_))
  · exact .inr ⟨by assumption, by assumption⟩
  · exact .inl (by assumption)

-- text C7
theorem seek_c (w : World) (b : Array UInt8) (ks : List Int) (at0 v : Int) (t t' tv : Tok) (l : Addr) : CtL w 4 70 [(l, { cls := .type "tuple", data := .seq #[.int v tv] })] (KBw.bInts b = ks ∧ ks.length ≤ 1000 ∧ 0 ≤ at0 ∧ at0 ≤ 2000) [.bytes b t, .int at0 t', .ref l] (fun x => x = runEnd (isNot v) ks at0 ∧ at0 ≤ x ∧ (x ≤ at0 ∨ x ≤ (ks.length : Int))) (fun x t => .int x t) := by
  walk_at "BEGIN"; intro mean mg mb news dp un gd cn cs a ccd cl outer A₀ base h₀ L m s Q E B F X N T hk hd hu hp hret
  obtain ⟨hb, hl, h0, h1⟩ := hp
  walk_at "ENTER"
  k_with "state" => first | exact ⟨h0, h1, rfl⟩ | exact seek_turn ⟨by assumption, by assumption, by assumption⟩ hl (by assumption) (by assumption)
  k_with "exec While BoolOp cons nil" => k_while (fun _ a => 0 ≤ a ∧ a ≤ 2000 ∧ runEnd (isNot v) ks a = runEnd (isNot v) ks at0) (fun _ a => ((ks.length : Int) - a).toNat) "at"
  k_steps
  all_goals refine retCt hret _ (by assumption) (by assumption) (fun _ hp => hp) (run_facts h0 (seek_end (by assumption) (by assumption) ?_))
  · exact .inr ⟨by assumption, by assumption⟩
  · exact .inl (by assumption)

-- text C4
theorem kw3 : True := by
  k_with "call ref" => (k_here; (refine' useCt0 (lower_c _ _ _) (by k_asm) (by k_asm) (by k_asm) (by k_asm) (by k_asm) (by exact rfl) (by ktr_room) (by ktr_units) (by (first | assumption | omega)) ?_); intro x' t' h' tk' g' F' N'; subst g'; (try dsimp only); (try k_sweep); (try k_fold))
  trivial

local macro_rules | `(tactic| k_all) => `(tactic| assumption)
theorem kw4 : True := by
  k_with "exec For Name Name cons nil" => (k_here; (rename Fr _ _ _ _ => lF'); (with_unfolding_all refine' For_invVF lF' (by exact rfl) (by exact rfl) ?_; k_whole))
  trivial
noncomputable def lowText (x : Str) : Str := mkT (x.cps.toList.map lowN)
theorem lowText_join (x : Str) : Txt.join (Str.ofString "") ((KStt.codes x).map fun c => one (lowN c.toNat)) = lowText x := by
  rw [join_one (KStt.codes x) (fun c => lowN c.toNat)]
  unfold lowText KStt.codes
  rw [List.map_map]
  congr 1
theorem lower_text_c (w : World) (x : Str) (t : Tok) : Ct w 6 42 (x.length ≤ 1000 ∧ ∀ k ∈ KStt.codes x, 0 ≤ k ∧ k < 256) [.str x t] (fun y => y = lowText x) (fun x t => .str x t) := by
  walk_at "BEGIN"; intro mean mg mb news dp un gd cn cs a ccd cl outer A₀ base h₀ L m s Q E B F X N T hk hd hu hp hret
  obtain ⟨hl, h256⟩ := hp
  walk_at "ENTER"
  k_steps
  rename Fr _ _ _ _ => F0
  rename News _ _ _ _ => N0
  rename ∀ p, p ∈ _ → _ < _ => hlt
  with_unfolding_all refine' for_text_append (fun n => one (lowN n)) rfl F0 N0 hlt ?turn ?done
  case turn =>
    clear F0 N0
    intro n t us k h tk own hmem hne hlen F1 N1
    have hn := h256 _ hmem
    k_steps
    refine ⟨rfl, _, _, _, _, rfl, by assumption, ?_, by assumption⟩
    intro z hz
    simp only [if_neg hz]
  case done =>
    clear F0 N0
    intro us k u h tk hS F1 N1
    k_steps
    refine join_is 1 N1 (by k_mem) hS ?_ ?_ (lowText_join x) ?_
    · intro y hy
      obtain ⟨c, _, rfl⟩ := List.mem_map.mp hy
      exact Nat.le_refl _
    · rw [List.length_map, KStt.codes_length]; omega
    · intro t' k'
      k_steps
      exact retCt hret _ (by assumption) (by assumption) (fun _ hp => .tail _ hp) rfl

-- text Comp
section
variable {prog : Program} {w : World} {A : Around} {E : Value → Shared → Prop} {s : Shared} {h₀ : Heap} {L : Addr} {m : Str → Option Value} {env : Env} {elt : Expr} {x : Str} {scope : Scope} {cl : List (Str × Addr)} {S : List (Addr × Obj) → Prop} {P : Nat → Value → Prop} {Fin : List Value → List (Addr × Obj) → Prop} {news : List (Addr × Obj)}

theorem iter_str {x : Str} {t : Tok} {Q : Value → Shared → Prop}
    (hQ : ∀ (o : Obj) (St : Nat → Heap → Prop), (∀ A' : Around, A'.handled = none → Walks prog w A' s.heap.objs.size [s.heap.objs.size] [s.heap.objs.size] x.cps.size (SignAt x) St) → (∀ i h, St i h → ∃ o, h.get? s.heap.objs.size = some o) → St 0 (s.heap.push o) →
      Q (.ref s.heap.objs.size) { s with heap := s.heap.push o }) : wpAny (model prog w) A (pyIter (.str x t)) Q E s := by
  cases ha : x.cps.all (· < 128)
  · exact wpAny_pyIter_wide ha (hQ _ _ (fun A' hA => Walks.strWide hA _ x t) (fun i h st => let ⟨o, ho, _⟩ := st; ⟨o, ho⟩) ⟨_, Heap.get?_push_size _ rfl, rfl, rfl⟩)
  · exact wpAny_pyIter_ascii ha (hQ _ _ (fun A' hA => Walks.strAscii hA _ x t) (fun i h st => let ⟨o, ho, _⟩ := st; ⟨o, ho⟩) ⟨_, Heap.get?_push_size _ rfl, rfl, rfl⟩)

/-- what a byte's place holds -/
noncomputable def ByteAt (b : Array UInt8) (i : Nat) (v : Value) : Prop := ∃ c u, b[i]? = some c ∧ v = .int (c.toNat : Int) u
theorem iter_bytes {b : Array UInt8} {t : Tok} {Q : Value → Shared → Prop}
    (hQ : ∀ (o : Obj) (St : Nat → Heap → Prop), (∀ A' : Around, A'.handled = none → Walks prog w A' s.heap.objs.size [s.heap.objs.size] [s.heap.objs.size] b.size (ByteAt b) St) → (∀ i h, St i h → ∃ o, h.get? s.heap.objs.size = some o) → St 0 (s.heap.push o) →
      Q (.ref s.heap.objs.size) { s with heap := s.heap.push o }) : wpAny (model prog w) A (pyIter (.bytes b t)) Q E s :=
  KBw.pyIter_bytes (hQ _ _ (fun A' hA => KBw.walks hA _ b t) (fun i h st => let ⟨o, ho, _⟩ := st; ⟨o, ho⟩) ⟨_, Heap.get?_push_size _ rfl, rfl, rfl⟩)

/-- the source of a comprehension: a text or bytes -/
noncomputable def SrcW (prog : Program) (w : World) (A : Around) (h₀ : Heap) (L : Addr) (m : Str → Option Value) (env : Env) (elt : Expr) (x : Str) (scope : Scope) (cl : List (Str × Addr)) (Q : Value → Shared → Prop) (xv : Value) (s₁ : Shared) : Prop :=
  ∃ n P news, ((∃ y t, xv = .str y t ∧ n = y.cps.size ∧ P = SignAt y) ∨ (∃ b t, xv = .bytes b t ∧ n = b.size ∧ P = ByteAt b)) ∧ A.handled = none ∧ Fr h₀ L s₁.heap m ∧ News h₀ L s₁.heap news ∧ n ≤ sizeLine ∧
    ∀ g, LCg.CompRest prog w A h₀ L m env elt x scope cl { s₁ with heap := g } (fun _ => True) P (LCg.FinE h₀ L m { s₁ with heap := g } Q) n 0 [] news

theorem ListComp_W {iter : Expr} {px : Pos} {pos : Pos} {Q : Value → Shared → Prop} (_F₀ : Fr h₀ L s.heap m)
    (hclos : closureFor scope env = pure cl) (hcell : ∀ y ∈ scope.names, y.2 ≠ .cell) (hkind : scope.kind = .function)
    (hnames : ∀ y ∈ scope.names, y.2 = .local → scope.names.lookup y.1 = some .local) (hx : scope.names.lookup x = some .local)
    (h : wpAny (model prog w) A (eval iter env) (SrcW prog w A h₀ L m env elt x scope cl Q) E s)
    (hs : ∀ x, foldedSetIterable iter env x = pure x) :
    wpAny (model prog w) A (eval (.ListComp elt [⟨.Name x px, iter, [], 0⟩] scope pos) env) Q E s := by
  rw [eval_ListComp]
  refine wpAny_comprehension_free (use := none) rfl hs hclos hkind hnames (wpAny_mono h (fun xv s₁ h₁ => ?_) fun _ _ e => e)
  obtain ⟨n, P, news, hsrc, hh, F, N, hsz, R⟩ := h₁
  rcases hsrc with ⟨y, t, rfl, rfl, rfl⟩ | ⟨b, t, rfl, rfl, rfl⟩
  · refine iter_str fun o St W hIo hst => ?_
    refine LCg.block_U (W A hh) hsz hIo (fun i h h' o' nw st e e' _ _ _ => (W A hh).frame i h h' st fun b' hb o'' q => ?_) hcell hkind hx hst (fun b' hb => ?_)
      (F.keeps fun _ _ e => Heap.get?_push_of_some _ e) (N.grown fun _ _ e => Heap.get?_push_of_some _ e) (Nat.ne_of_lt F.ns.lt) (next_is_new F) (fun p hp => Nat.ne_of_lt (Heap.lt_size (N p hp).1)) trivial (R _) ?_
    · rw [List.mem_singleton.mp hb] at q ⊢
      rw [e] at q; rw [e', q]
    · rw [List.mem_singleton.mp hb]
      show s₁.heap.objs.size < (s₁.heap.push o).objs.size
      rw [Heap.size_push]; exact Nat.lt_succ_self _
    · intro D C h tk m' ys news' F' N' o1 hn hC₀ hD₀ hCL hDL hCD offC fin
      refine ⟨m', hn, fun h'' hs'' => fin D h'' tk (F'.change hs'' hCL hC₀) (fun p hp => ?_) o1⟩
      refine ⟨hs''.extBut _ _ ?_ (N' p hp).1, (N' p hp).2⟩
      rcases List.mem_cons.mp hp with rfl | hp
      · exact Ne.symm hCD
      · exact offC p hp
  · refine iter_bytes fun o St W hIo hst => ?_
    refine LCg.block_U (W A hh) hsz hIo (fun i h h' o' nw st e e' _ _ _ => (W A hh).frame i h h' st fun b' hb o'' q => ?_) hcell hkind hx hst (fun b' hb => ?_)
      (F.keeps fun _ _ e => Heap.get?_push_of_some _ e) (N.grown fun _ _ e => Heap.get?_push_of_some _ e) (Nat.ne_of_lt F.ns.lt) (next_is_new F) (fun p hp => Nat.ne_of_lt (Heap.lt_size (N p hp).1)) trivial (R _) ?_
    · rw [List.mem_singleton.mp hb] at q ⊢
      rw [e] at q; rw [e', q]
    · rw [List.mem_singleton.mp hb]
      show s₁.heap.objs.size < (s₁.heap.push o).objs.size
      rw [Heap.size_push]; exact Nat.lt_succ_self _
    · intro D C h tk m' ys news' F' N' o1 hn hC₀ hD₀ hCL hDL hCD offC fin
      refine ⟨m', hn, fun h'' hs'' => fin D h'' tk (F'.change hs'' hCL hC₀) (fun p hp => ?_) o1⟩
      refine ⟨hs''.extBut _ _ ?_ (N' p hp).1, (N' p hp).2⟩
      rcases List.mem_cons.mp hp with rfl | hp
      · exact Ne.symm hCD
      · exact offC p hp

/-- every element is one value, made without a thing that is kept -/
noncomputable def ElEnd (news : List (Addr × Obj)) (G : Value → Prop) (y : Value) (news' : List (Addr × Obj)) : Prop := news' = news ∧ G y
theorem comp_rest {n : Nat} (G : Nat → Value → Prop)
    (turn : ∀ i v I oI C oC D m₂ ys h tk (E' : Value → Shared → Prop), i < n → P i v → LCg.NsObj oC m₂ → m₂ x = some v → Fr h₀ L h m → News h₀ L h ((I, oI) :: (C, oC) :: (D, LCg.lst ys) :: news) → LCg.Off3 I C D news → ((@Ne Nat I C) ∧ (@Ne Nat I D) ∧ (@Ne Nat C D)) →
      wpAny (model prog w) A (eval elt (compEnvC scope cl C env)) (LCg.CompEnd h₀ L m { s with heap := h, toks := tk } I oI C oC D (LCg.lst ys) S (ElEnd news (G i))) E' { s with heap := h, toks := tk })
    (fin : ∀ ys, ys.length = n → (∀ (i : Nat) v, ys[i]? = some v → G i v) → Fin ys news) : LCg.CompRest prog w A h₀ L m env elt x scope cl s S P Fin n 0 [] news := by
  have key : ∀ (j i : Nat) (ys : List Value), i + j = n → ys.length = i → (∀ (i : Nat) v, ys[i]? = some v → G i v) → LCg.CompRest prog w A h₀ L m env elt x scope cl s S P Fin j i ys news := by
    intro j
    induction j with
    | zero =>
      intro i ys hi hl hy
      exact LCg.CompRest.zero (fin ys (by omega) hy)
    | succ j ih =>
      intro i ys hi hl hy
      refine LCg.CompRest.succ ?_
      intro v I oI C oC D m₂ h tk E' hv hC hx F N off ne
      refine wpAny_mono (turn i v I oI C oC D m₂ ys h tk E' (by omega) hv hC hx F N off ne) (fun y s₂ hq => ?_) fun _ _ e => e
      obtain ⟨h', tk', nw, e, F', N', off', hS, hn, hy'⟩ := hq
      rw [hn] at N' off' hS
      refine ⟨h', tk', news, e, F', N', off', hS, ih (i + 1) _ (by omega) (by simp [hl]) ?_⟩
      intro i' v' hv'
      rcases Nat.lt_or_ge i' ys.length with q | q
      · rw [List.getElem?_append_left q] at hv'
        exact hy i' v' hv'
      · rw [List.getElem?_append_right q] at hv'
        have q2 : i' - ys.length = 0 := by
          rcases Nat.eq_zero_or_pos (i' - ys.length) with z | z
          · exact z
          · rw [List.getElem?_eq_none (by simp; omega)] at hv'; cases hv'
        rw [q2] at hv'
        have q3 : i' = i := by omega
        have q4 : y = v' := by simpa using hv'
        rw [q3, ← q4]
        exact hy'
  exact key n 0 [] (by omega) rfl (by intro i v h; simp at h)

theorem strsAre_of {ys : List Value} {zs : List Str} (hl : ys.length = zs.length) (h : ∀ (i : Nat) v, ys[i]? = some v → ∃ z t, zs[i]? = some z ∧ v = .str z t) : StrsAre ys zs := by
  induction ys generalizing zs with
  | nil =>
    cases zs with
    | nil => exact .nil
    | cons z r => simp at hl
  | cons y r ih =>
    cases zs with
    | nil => simp at hl
    | cons z zr =>
      obtain ⟨z', t, e1, e2⟩ := h 0 y rfl
      have e3 : z = z' := by simpa using e1
      subst e2 e3
      exact .cons _ _ (ih (by simpa using hl) fun i v q => by simpa using h (i + 1) v (by simpa using q))
theorem intsAre_of {ys : List Value} {zs : List Int} (hl : ys.length = zs.length) (h : ∀ (i : Nat) v, ys[i]? = some v → ∃ z t, zs[i]? = some z ∧ v = .int z t) : IntsAre ys zs := by
  induction ys generalizing zs with
  | nil =>
    cases zs with
    | nil => exact .nil
    | cons z r => simp at hl
  | cons y r ih =>
    cases zs with
    | nil => simp at hl
    | cons z zr =>
      obtain ⟨z', t, e1, e2⟩ := h 0 y rfl
      have e3 : z = z' := by simpa using e1
      subst e2 e3
      exact .cons _ _ (ih (by simpa using hl) fun i v q => by simpa using h (i + 1) v (by simpa using q))
end

-- text C8
theorem kw5 : True := by
  k_with "eval ListComp" => (k_here; (with_reducible show wpAny _ _ (eval (Expr.ListComp _ [⟨_, Expr.Name _ _, [], 0⟩] _ _) _) _ _ _); k_dflt (refine ListComp_W (by k_asm) (by with_unfolding_all rfl) (by decide) (by rfl) (by decide) (by rfl) ?_ (by intro _; rfl)))
  k_with "call ref" => (k_here; (refine' useCt0 (lower_text_c _ _ _) (by k_asm) (by k_asm) (by k_asm) (by k_asm) (by k_asm) (by exact rfl) (by ktr_room) (by ktr_units) (by (first | assumption | exact txt_fine (by assumption) (by assumption))) ?_); intro x' t' h' tk' g' F' N'; subst g'; (try dsimp only); (try k_sweep); (try k_fold))
  trivial

theorem txt_map (ks : List Int) : Txt.join (Str.ofString "") (ks.map fun k => one k.toNat) = KStt.txt ks := join_one ks Int.toNat
theorem folded_c (w : World) (b : Array UInt8) (ks : List Int) (t : Tok) : Ct w 8 75 (KBw.bInts b = ks ∧ ks.length ≤ 1000) [.bytes b t] (fun y => y = lowText (KStt.txt ks)) (fun x t => .str x t) := by
  walk_at "BEGIN"; intro mean mg mb news dp un gd cn cs a ccd cl outer A₀ base h₀ L m s Q E B F X N T hk hd hu hp hret
  obtain ⟨hb, hl⟩ := hp
  have hbs : b.size = ks.length := by rw [← hb]; exact (KBw.ints_length b).symm
  have h256 := ints_256 hb
  walk_at "ENTER"
  k_steps
  refine ⟨_, _, _, .inr ⟨_, _, rfl, rfl, rfl⟩, rfl, by assumption, by assumption, ?_, fun g => comp_rest (fun i v => ∃ z t, (ks.map fun k => one k.toNat)[i]? = some z ∧ v = .str z t) ?turn ?fin⟩
  case turn =>
    intro i v I oI C oC D m₂ ys h tk E' hi hv hC hx F' N' off ne
    obtain ⟨c, u, hc, rfl⟩ := hv
    have hcl := c.toNat_lt
    k_steps
    refine LCg.CompEnd.intro (by assumption) (by assumption) _ (fun _ h => h) off trivial ⟨rfl, _, _, ?_, rfl⟩
    rw [List.getElem?_map, ← hb, KBw.ints_get hc]; rfl
  case fin =>
    intro ys hys hG D h tk F1 N1 _
    have hS : StrsAre ys (ks.map fun k => one k.toNat) := strsAre_of (by rw [List.length_map, hys, hbs]) hG
    k_steps
    refine join_is 1 N1 (by k_mem) hS ?_ ?_ (txt_map ks) ?_
    · intro y hy
      obtain ⟨c, _, rfl⟩ := List.mem_map.mp hy
      exact Nat.le_refl _
    · rw [List.length_map]; omega
    · intro t' k'
      k_steps
      exact retCt hret _ (by assumption) (by assumption) (fun _ hp => .tail _ hp) rfl
  · rw [sizeLine_eq]; omega

-- text Rules
section
variable {prog : Program} {w : World} {A : Around} {E : Value → Shared → Prop} {s : Shared} {h₀ : Heap} {L l : Addr} {m : Str → Option Value} {news : List (Addr × Obj)} {x y : Str} {t u : Tok} {Q : Value → Shared → Prop} {value slice : Expr}
theorem my_split (hF : Fr h₀ L s.heap m) (hN : News h₀ L s.heap news) (hy : (y.length == 0) = false)
    (h : ∀ D p0 t0 (l' : List (Str × Tok)) h' k, Txt.split x y = p0 :: l'.map (·.1) → Fr h₀ L h' m → News h₀ L h' ((D, listOf (Value.str p0 t0 :: strValues l').toArray 0) :: news) → (∀ p ∈ news, p.1 < D) → Q (.ref D) { s with heap := h', toks := k }) (hsz : x.length + 2 ≤ sizeLine) :
    wpAny (model prog w) A (call (.builtin "str.split") [.str x t, .str y u]) Q E s := by
  refine KSpl.split1 hF hN hy (fun D l h' k e _ F N l1 => ?_) hsz
  obtain ⟨p, r, e2⟩ := split_ne x y
  cases l with
  | nil => rw [e2] at e; cases e
  | cons q l' =>
    obtain ⟨p0, t0⟩ := q
    exact h D p0 t0 l' h' k e.symm F N l1
theorem my_item0 {v : Value} {vs : List Value} {k : Nat} {ti : Tok} (N : News h₀ L s.heap news) (hm : (l, listOf (v :: vs).toArray k) ∈ news) (h : Q v s)
    (hs : subscripted slice false (.ref l) (.int 0 ti) = operate [.ref l, .int 0 ti] (getItem (.ref l) (.int 0 ti)) := by with_unfolding_all rfl) :
    wpAny (model prog w) A (subscriptTail value slice (.ref l) (.int 0 ti)) Q E s :=
  let hl : s.heap.IsList l (v :: vs).toArray := News.isList N hm
  tail_any hl.typeIs slot_list_getitem.lookup (wpAny_getItem_list hl (by decide) (by decide) (by simp) h) hs
theorem my_from1 {v : Value} {vs : List Value} {k : Nat} {t1 : Tok} (F : Fr h₀ L s.heap m) (N : News h₀ L s.heap news) (hm : (l, listOf (v :: vs).toArray k) ∈ news)
    (h : ∀ D h', Fr h₀ L h' m → News h₀ L h' ((D, listOf vs.toArray 0) :: news) → (∀ p ∈ news, p.1 < D) → Q (.ref D) { s with heap := h' }) (hz : vs.length + 1 ≤ sizeLine)
    (hs : subscripted slice false (.ref l) (.ref s.heap.objs.size) = operate [.ref s.heap.objs.size, .ref l] (getItem (.ref l) (.ref s.heap.objs.size)) := by with_unfolding_all rfl)
    (ht : ∀ r, letTemporaryGo value (.ref l) r = pure () := by intro _; with_unfolding_all rfl) :
    wpAny (model prog w) A (subscriptTail value slice (.ref l) (.ref s.heap.objs.size)) Q E { s with heap := s.heap.push { cls := .type "slice", data := .fields #[.int 1 t1, .none, .none] } } := by
  refine kmk_slice_lit (lo := some 1) (hi := none) F N (News.isList N hm) (.int 1 t1) .none ?_ h hs ht (by simpa using hz)
  have e : sliceBounds (some 1) none none (v :: vs).toArray.size = (((1 : Nat) : Int), (((v :: vs).length : Nat) : Int), 1) := by
    simp only [sliceBounds, Option.getD_none, show (1 : Int) > 0 by decide, if_true, List.size_toArray, List.length_cons]
    congr 1
    simp only [show ¬ ((1 : Int) < 0) by decide, if_false]
    omega
  rw [kmk_pick_nat _ e]
  simp
theorem slice_all (x : Str) : Txt.slice x (some 0) (some (x.length : Int)) = x := by
  have e := StrLaws.sliceText_plain (x := x) (i := 0) (j := (x.length : Int)) ⟨by omega, by omega, by show ((x.length : Nat) : Int) ≤ _; rw [Array.length_toList]; exact Int.le_refl _⟩
  refine Eq.trans e ?_
  simp only [List.drop_zero, Int.toNat_zero, Int.sub_zero, Int.toNat_natCast]
  refine Str.ext' ?_
  show (List.take x.length x.cps.toList).toArray = x.cps
  rw [show x.length = x.cps.toList.length from (Array.length_toList).symm, List.take_length]
end
section
variable {prog : Program} {w : World} {A : Around} {E : Value → Shared → Prop} {s : Shared} {env : Env} {h₀ : Heap} {x : Str} {body : List Stmt} {Q : Flow → Shared → Prop} {m₀ : Str → Option Value} {news : List (Addr × Obj)} {l : Addr} {items : Array Value}
/-- a search over a tuple of the ledger: G says of a place that its turn went by -/
theorem for_tuple (G : Nat → Prop) (stored : List Str) (hh : A.handled = none) (F : Fr h₀ env.locals s.heap m₀) (N : News h₀ env.locals s.heap ((l, ({ cls := .type "tuple", data := .seq items } : Obj)) :: news)) (hne : ∀ p ∈ news, p.1 ≠ l)
    (turn : ∀ (i : Nat) v (u : Str → Option Value) h tk own, items[i]? = some v → OwnOff own (news.map (·.1)) → (∀ j, j < i → G j) → Fr h₀ env.locals h (fun y => if y = x then some v else if stored.contains y then u y else m₀ y) → News h₀ env.locals h (news ++ own) →
      wpAny (model prog w) A (execs body env) (InvPostN h₀ env.locals (fun m nx => nx = news ∧ (∀ z, z ≠ x → stored.contains z = false → m z = m₀ z) ∧ ∀ j, j < i + 1 → G j) own (news.map (·.1)) { s with heap := h, toks := tk } Q) E { s with heap := h, toks := tk })
    (done : ∀ (u : Str → Option Value) h tk, (∀ j, j < items.size → G j) → Fr h₀ env.locals h (fun y => if y = x then u y else if stored.contains y then u y else m₀ y) → News h₀ env.locals h news → Q .next { s with heap := h, toks := tk }) :
    wpAny (model prog w) A (pyIter (.ref l)) (fun it s₂ => LoopAtV prog w A h₀ env x body Q E it s₂) E s := by
  have hm := N _ (List.mem_cons_self)
  have ht : s.heap.IsTuple l items := ⟨_, hm.1, rfl, _, rfl⟩
  have hlt : l < s.heap.objs.size := Heap.lt_size hm.1
  have N' : News h₀ env.locals s.heap news := fun p hp => N p (List.mem_cons_of_mem _ hp)
  refine wpAny_pyIter_tuple ht ?_
  have W := Walks.tuple (prog := prog) (w := w) hh s.heap.objs.size l (Nat.ne_of_lt hlt) items
  have frm : ∀ {h : Heap} {m : Str → Option Value} {v : Value}, (∀ z, z ≠ x → stored.contains z = false → m z = m₀ z) → (fun y => if y = x then some v else m y) = (fun y => if y = x then some v else if stored.contains y then m y else m₀ y) := by
    intro h m v hm'
    funext y
    by_cases h1 : y = x
    · simp only [if_pos h1]
    · simp only [if_neg h1]
      cases h2 : stored.contains y with
      | true => simp
      | false => simp only [Bool.false_eq_true, if_false]; exact hm' y h1 h2
  refine loop_invN (fun i m nx => nx = news ∧ (∀ z, z ≠ x → stored.contains z = false → m z = m₀ z) ∧ ∀ j, j < i → G j) W ?_ ?_ ?_ ?_ ?_ (F.push _) (fun p hp => ⟨Heap.get?_push_of_some _ (N' p hp).1, (N' p hp).2⟩) ⟨rfl, fun _ _ _ => rfl, fun _ h => absurd h (Nat.not_lt_zero _)⟩ ?_ ?_
  · intro h
    rcases List.mem_cons.mp h with h | h
    · exact absurd F.ns.lt (by rw [h]; exact Nat.lt_irrefl _)
    · exact hm.2.1 (List.mem_singleton.mp h).symm
  · intro b hb
    rw [List.mem_singleton.mp hb]
    exact next_is_new F
  · intro p hp hI
    exact absurd (Heap.lt_size (N' p hp).1) ((List.mem_singleton.mp hI) ▸ Nat.lt_irrefl _)
  · intro p hp hI
    rcases List.mem_cons.mp hI with h | h
    · exact absurd (Heap.lt_size (N' p hp).1) (by rw [h]; exact Nat.lt_irrefl _)
    · exact hne p hp (List.mem_singleton.mp h)
  · exact ⟨⟨_, Heap.get?_push_size _ rfl, rfl, rfl⟩, ⟨_, Heap.get?_push_of_some _ hm.1, rfl, _, rfl⟩⟩
  · rintro i v m₁ nx h tk own hi hv _ hoff ⟨rfl, hk, hG⟩ F₁ N₁
    rw [frm (h := h) hk] at F₁
    exact turn i v m₁ h tk own hv hoff hG F₁ N₁
  · rintro m₁ nx h tk ⟨rfl, hk, hG⟩ F₁ N₁
    refine done m₁ h tk hG ?_ N₁
    have e : m₁ = (fun y => if y = x then m₁ y else if stored.contains y then m₁ y else m₀ y) := by
      funext y
      by_cases h1 : y = x
      · simp only [if_pos h1]
      · simp only [if_neg h1]
        cases h2 : stored.contains y with
        | true => simp
        | false => simp only [Bool.false_eq_true, if_false]; exact hk y h1 h2
    rw [← e]
    exact F₁
end

-- text Pairs
section
variable {prog : Program} {w : World} {A : Around} {E : Value → Shared → Prop} {s : Shared} {env : Env} {h₀ : Heap} {target : Expr} {body : List Stmt} {Q : Flow → Shared → Prop} {m₀ : Str → Option Value} {news : List (Addr × Obj)} {l : Addr} {items : Array Value} {k : Nat}
/-- a walk over a list of the ledger, its target a tuple: G says of a place that its turn went by -/
theorem for_pairs (G : Nat → Prop) (stored : List Str) (hh : A.handled = none) (F : Fr h₀ env.locals s.heap m₀) (N : News h₀ env.locals s.heap ((l, listOf items k) :: news)) (hne : ∀ p ∈ news, p.1 ≠ l)
    (turn : ∀ (i : Nat) v (u : Str → Option Value) h tk own, items[i]? = some v → (∀ j, j < i → G j) → Fr h₀ env.locals h (fun y => if stored.contains y then u y else m₀ y) → News h₀ env.locals h (own ++ news) →
      wpAny (model prog w) A (assign target env v) (fun _ s₃ => wpAny (model prog w) A (execs body env) (InvPostN h₀ env.locals (fun m nx => nx = news ∧ (∀ z, stored.contains z = false → m z = m₀ z) ∧ ∀ j, j < i + 1 → G j) own (news.map (·.1)) { s with heap := h, toks := tk } Q) E s₃) E { s with heap := h, toks := tk })
    (done : ∀ (u : Str → Option Value) h tk, (∀ j, j < items.size → G j) → Fr h₀ env.locals h (fun y => if stored.contains y then u y else m₀ y) → News h₀ env.locals h news → Q .next { s with heap := h, toks := tk }) :
    wpAny (model prog w) A (pyIter (.ref l)) (fun it s₂ => TurnsAt prog w A h₀ env target body Q E it s₂) E s := by
  have hm := N _ (List.mem_cons_self)
  have hls : s.heap.IsList l items := ⟨_, hm.1, rfl, _, rfl⟩
  have hlt : l < s.heap.objs.size := Heap.lt_size hm.1
  have N' : News h₀ env.locals s.heap news := fun p hp => N p (List.mem_cons_of_mem _ hp)
  refine wpAny_pyIter_list hls ?_
  have W := Walks.list (prog := prog) (w := w) hh s.heap.objs.size l (Nat.ne_of_lt hlt) items
  have frm : ∀ {m : Str → Option Value}, (∀ z, stored.contains z = false → m z = m₀ z) → m = (fun y => if stored.contains y then m y else m₀ y) := by
    intro m hm'
    funext y
    cases h2 : stored.contains y with
    | true => simp
    | false => simp only [Bool.false_eq_true, if_false]; exact hm' y h2
  refine ⟨s.heap.objs.size, _, _, items.size, _, _, _, m₀, news, fun i m nx => nx = news ∧ (∀ z, stored.contains z = false → m z = m₀ z) ∧ ∀ j, j < i → G j, rfl, KTurns.ofWalks W fun i v s Q E st q => letGo_listiter st.1 q, ?_, ?_, ?_, ?_, F.push _, (fun p hp => ⟨Heap.get?_push_of_some _ (N' p hp).1, (N' p hp).2⟩), ⟨rfl, fun _ _ => rfl, fun _ h => absurd h (Nat.not_lt_zero _)⟩, ?_, ?_⟩
  · intro h
    rcases List.mem_cons.mp h with h | h
    · exact absurd F.ns.lt (by rw [h]; exact Nat.lt_irrefl _)
    · exact hm.2.1 (List.mem_singleton.mp h).symm
  · intro b hb
    rw [List.mem_singleton.mp hb]
    exact next_is_new F
  · intro p hp hI
    exact absurd (Heap.lt_size (N' p hp).1) ((List.mem_singleton.mp hI) ▸ Nat.lt_irrefl _)
  · exact ⟨⟨_, Heap.get?_push_size _ rfl, rfl, rfl⟩, ⟨_, Heap.get?_push_of_some _ hm.1, rfl, _, rfl⟩⟩
  · rintro i v m₁ nx h tk own hi hv ⟨rfl, hk, hG⟩ hnw _ _ _ _ F₁ N₁
    rw [frm hk] at F₁
    refine wpAny_mono (turn i v m₁ h tk own hv hG F₁ N₁) (fun _ s₃ hq => wpAny_mono hq (fun f s₄ q => ?_) fun _ _ e => e) fun _ _ e => e
    have fin : InvEndN h₀ env.locals (fun m nx' => nx' = nx ∧ (∀ z, stored.contains z = false → m z = m₀ z) ∧ ∀ j, j < i + 1 → G j) own (nx.map (·.1)) { s with heap := h, toks := tk } s₄ → LoopStepU h₀ env.locals [s.heap.objs.size] own (fun m nx' => nx' = nx ∧ (∀ z, stored.contains z = false → m z = m₀ z) ∧ ∀ j, j < i + 1 → G j) { s with heap := h, toks := tk } .next s₄ := by
      rintro ⟨h', tk', m', news', nx', e, F', N'', hn, ho, ha, rfl, hJ⟩
      exact ⟨rfl, h', tk', m', nx', e, F', fun p hp => N'' p ((List.mem_append.mp hp).elim (ho p) (hn p)), hnw, rfl, hJ⟩
    cases f with
    | ret v => exact .ret q
    | brk => exact .brk q
    | next => exact .next (fin q)
    | cont => exact .cont (fin q)
  · rintro h tk m₁ nx F₁ N₁ _ ⟨rfl, hk, hG⟩
    rw [frm hk] at F₁
    exact done m₁ h tk hG F₁ N₁
end
noncomputable def optV : Option Str → Tok → Value
  | none, _ => .none
  | some x, t => .str x t
/-- a list of pairs, each a tuple of the ledger -/
inductive PairsAre (news : List (Addr × Obj)) : List Value → List (Str × Option Str) → Prop
  | nil : PairsAre news [] []
  | cons {a : Addr} {x : Str} {y : Option Str} {t : Tok} {v : Value} {vs r} : (a, ({ cls := .type "tuple", data := .seq #[.str x t, v] } : Obj)) ∈ news → (∃ t', v = optV y t') → PairsAre news vs r → PairsAre news (.ref a :: vs) ((x, y) :: r)
theorem pairs_get {news : List (Addr × Obj)} {vs : List Value} {r : List (Str × Option Str)} (h : PairsAre news vs r) : ∀ {i : Nat} {v : Value}, vs[i]? = some v → ∃ a x y t t', r[i]? = some (x, y) ∧ v = .ref a ∧ (a, ({ cls := .type "tuple", data := .seq #[.str x t, optV y t'] } : Obj)) ∈ news := by
  induction h with
  | nil => intro i v h; simp at h
  | cons hm hy _ ih =>
    intro i v hv
    obtain ⟨t', rfl⟩ := hy
    cases i with
    | zero => exact ⟨_, _, _, _, _, rfl, by simpa using hv.symm, hm⟩
    | succ i => simpa using ih (by simpa using hv)
theorem pairs_at {news : List (Addr × Obj)} {items : Array Value} {r : List (Str × Option Str)} (h : PairsAre news items.toList r) {i : Nat} {v : Value} (hv : items[i]? = some v) : ∃ a x y t t', r[i]? = some (x, y) ∧ v = .ref a ∧ (a, ({ cls := .type "tuple", data := .seq #[.str x t, optV y t'] } : Obj)) ∈ news :=
  pairs_get h (by rw [Array.getElem?_toList]; exact hv)

-- text Rows1
noncomputable def rowsT : List Str := [(Str.ofString "UTF-8 unicode-1-1-utf-8 unicode11utf8 unicode20utf8 utf-8 utf8 x-unicode20utf8"),
  (Str.ofString "IBM866 866 cp866 csibm866 ibm866"),
  (Str.ofString "ISO-8859-2 csisolatin2 iso-8859-2 iso-ir-101 iso8859-2 iso88592 iso_8859-2 iso_8859-2:1987 l2 latin2"),
  (Str.ofString "ISO-8859-3 csisolatin3 iso-8859-3 iso-ir-109 iso8859-3 iso88593 iso_8859-3 iso_8859-3:1988 l3 latin3"),
  (Str.ofString "ISO-8859-4 csisolatin4 iso-8859-4 iso-ir-110 iso8859-4 iso88594 iso_8859-4 iso_8859-4:1988 l4 latin4"),
  (Str.ofString "ISO-8859-5 csisolatincyrillic cyrillic iso-8859-5 iso-ir-144 iso8859-5 iso88595 iso_8859-5 iso_8859-5:1988"),
  (Str.ofString "ISO-8859-6 arabic asmo-708 csiso88596e csiso88596i csisolatinarabic ecma-114 iso-8859-6 iso-8859-6-e iso-8859-6-i iso-ir-127 iso8859-6 iso88596 iso_8859-6 iso_8859-6:1987"),
  (Str.ofString "ISO-8859-7 csisolatingreek ecma-118 elot_928 greek greek8 iso-8859-7 iso-ir-126 iso8859-7 iso88597 iso_8859-7 iso_8859-7:1987 sun_eu_greek"),
  (Str.ofString "ISO-8859-8 csiso88598e csisolatinhebrew hebrew iso-8859-8 iso-8859-8-e iso-ir-138 iso8859-8 iso88598 iso_8859-8 iso_8859-8:1988 visual"),
  (Str.ofString "ISO-8859-8-I csiso88598i iso-8859-8-i logical"),
  (Str.ofString "ISO-8859-10 csisolatin6 iso-8859-10 iso-ir-157 iso8859-10 iso885910 l6 latin6"),
  (Str.ofString "ISO-8859-13 iso-8859-13 iso8859-13 iso885913"),
  (Str.ofString "ISO-8859-14 iso-8859-14 iso8859-14 iso885914"),
  (Str.ofString "ISO-8859-15 csisolatin9 iso-8859-15 iso8859-15 iso885915 iso_8859-15 l9"),
  (Str.ofString "ISO-8859-16 iso-8859-16"),
  (Str.ofString "KOI8-R cskoi8r koi koi8 koi8-r koi8_r"),
  (Str.ofString "KOI8-U koi8-ru koi8-u"),
  (Str.ofString "macintosh csmacintosh mac macintosh x-mac-roman"),
  (Str.ofString "windows-874 dos-874 iso-8859-11 iso8859-11 iso885911 tis-620 windows-874"),
  (Str.ofString "windows-1250 cp1250 windows-1250 x-cp1250"),
  (Str.ofString "windows-1251 cp1251 windows-1251 x-cp1251"),
  (Str.ofString "windows-1252 ansi_x3.4-1968 ascii cp1252 cp819 csisolatin1 ibm819 iso-8859-1 iso-ir-100 iso8859-1 iso88591 iso_8859-1 iso_8859-1:1987 l1 latin1 us-ascii windows-1252 x-cp1252"),
  (Str.ofString "windows-1253 cp1253 windows-1253 x-cp1253"),
  (Str.ofString "windows-1254 cp1254 csisolatin5 iso-8859-9 iso-ir-148 iso8859-9 iso88599 iso_8859-9 iso_8859-9:1989 l5 latin5 windows-1254 x-cp1254"),
  (Str.ofString "windows-1255 cp1255 windows-1255 x-cp1255"),
  (Str.ofString "windows-1256 cp1256 windows-1256 x-cp1256"),
  (Str.ofString "windows-1257 cp1257 windows-1257 x-cp1257"),
  (Str.ofString "windows-1258 cp1258 windows-1258 x-cp1258"),
  (Str.ofString "x-mac-cyrillic x-mac-cyrillic x-mac-ukrainian"),
  (Str.ofString "GBK chinese csgb2312 csiso58gb231280 gb2312 gb_2312 gb_2312-80 gbk iso-ir-58 x-gbk"),
  (Str.ofString "gb18030 gb18030"),
  (Str.ofString "Big5 big5 big5-hkscs cn-big5 csbig5 x-x-big5"),
  (Str.ofString "EUC-JP cseucpkdfmtjapanese euc-jp x-euc-jp"),
  (Str.ofString "ISO-2022-JP csiso2022jp iso-2022-jp"),
  (Str.ofString "Shift_JIS csshiftjis ms932 ms_kanji shift-jis shift_jis sjis windows-31j x-sjis"),
  (Str.ofString "EUC-KR cseuckr csksc56011987 euc-kr iso-ir-149 korean ks_c_5601-1987 ks_c_5601-1989 ksc5601 ksc_5601 windows-949"),
  (Str.ofString "replacement csiso2022kr hz-gb-2312 iso-2022-cn iso-2022-cn-ext iso-2022-kr replacement"),
  (Str.ofString "UTF-16BE unicodefffe utf-16be"),
  (Str.ofString "UTF-16LE csunicode iso-10646-ucs-2 ucs-2 unicode unicodefeff utf-16 utf-16le"),
  (Str.ofString "x-user-defined x-user-defined")]
noncomputable def rowsW : List (List Str) := [[mkT [85, 84, 70, 45, 56], mkT [117, 110, 105, 99, 111, 100, 101, 45, 49, 45, 49, 45, 117, 116, 102, 45, 56], mkT [117, 110, 105, 99, 111, 100, 101, 49, 49, 117, 116, 102, 56], mkT [117, 110, 105, 99, 111, 100, 101, 50, 48, 117, 116, 102, 56], mkT [117, 116, 102, 45, 56], mkT [117, 116, 102, 56], mkT [120, 45, 117, 110, 105, 99, 111, 100, 101, 50, 48, 117, 116, 102, 56]],
  [mkT [73, 66, 77, 56, 54, 54], mkT [56, 54, 54], mkT [99, 112, 56, 54, 54], mkT [99, 115, 105, 98, 109, 56, 54, 54], mkT [105, 98, 109, 56, 54, 54]],
  [mkT [73, 83, 79, 45, 56, 56, 53, 57, 45, 50], mkT [99, 115, 105, 115, 111, 108, 97, 116, 105, 110, 50], mkT [105, 115, 111, 45, 56, 56, 53, 57, 45, 50], mkT [105, 115, 111, 45, 105, 114, 45, 49, 48, 49], mkT [105, 115, 111, 56, 56, 53, 57, 45, 50], mkT [105, 115, 111, 56, 56, 53, 57, 50], mkT [105, 115, 111, 95, 56, 56, 53, 57, 45, 50], mkT [105, 115, 111, 95, 56, 56, 53, 57, 45, 50, 58, 49, 57, 56, 55], mkT [108, 50], mkT [108, 97, 116, 105, 110, 50]],
  [mkT [73, 83, 79, 45, 56, 56, 53, 57, 45, 51], mkT [99, 115, 105, 115, 111, 108, 97, 116, 105, 110, 51], mkT [105, 115, 111, 45, 56, 56, 53, 57, 45, 51], mkT [105, 115, 111, 45, 105, 114, 45, 49, 48, 57], mkT [105, 115, 111, 56, 56, 53, 57, 45, 51], mkT [105, 115, 111, 56, 56, 53, 57, 51], mkT [105, 115, 111, 95, 56, 56, 53, 57, 45, 51], mkT [105, 115, 111, 95, 56, 56, 53, 57, 45, 51, 58, 49, 57, 56, 56], mkT [108, 51], mkT [108, 97, 116, 105, 110, 51]],
  [mkT [73, 83, 79, 45, 56, 56, 53, 57, 45, 52], mkT [99, 115, 105, 115, 111, 108, 97, 116, 105, 110, 52], mkT [105, 115, 111, 45, 56, 56, 53, 57, 45, 52], mkT [105, 115, 111, 45, 105, 114, 45, 49, 49, 48], mkT [105, 115, 111, 56, 56, 53, 57, 45, 52], mkT [105, 115, 111, 56, 56, 53, 57, 52], mkT [105, 115, 111, 95, 56, 56, 53, 57, 45, 52], mkT [105, 115, 111, 95, 56, 56, 53, 57, 45, 52, 58, 49, 57, 56, 56], mkT [108, 52], mkT [108, 97, 116, 105, 110, 52]],
  [mkT [73, 83, 79, 45, 56, 56, 53, 57, 45, 53], mkT [99, 115, 105, 115, 111, 108, 97, 116, 105, 110, 99, 121, 114, 105, 108, 108, 105, 99], mkT [99, 121, 114, 105, 108, 108, 105, 99], mkT [105, 115, 111, 45, 56, 56, 53, 57, 45, 53], mkT [105, 115, 111, 45, 105, 114, 45, 49, 52, 52], mkT [105, 115, 111, 56, 56, 53, 57, 45, 53], mkT [105, 115, 111, 56, 56, 53, 57, 53], mkT [105, 115, 111, 95, 56, 56, 53, 57, 45, 53], mkT [105, 115, 111, 95, 56, 56, 53, 57, 45, 53, 58, 49, 57, 56, 56]],
  [mkT [73, 83, 79, 45, 56, 56, 53, 57, 45, 54], mkT [97, 114, 97, 98, 105, 99], mkT [97, 115, 109, 111, 45, 55, 48, 56], mkT [99, 115, 105, 115, 111, 56, 56, 53, 57, 54, 101], mkT [99, 115, 105, 115, 111, 56, 56, 53, 57, 54, 105], mkT [99, 115, 105, 115, 111, 108, 97, 116, 105, 110, 97, 114, 97, 98, 105, 99], mkT [101, 99, 109, 97, 45, 49, 49, 52], mkT [105, 115, 111, 45, 56, 56, 53, 57, 45, 54], mkT [105, 115, 111, 45, 56, 56, 53, 57, 45, 54, 45, 101], mkT [105, 115, 111, 45, 56, 56, 53, 57, 45, 54, 45, 105], mkT [105, 115, 111, 45, 105, 114, 45, 49, 50, 55], mkT [105, 115, 111, 56, 56, 53, 57, 45, 54], mkT [105, 115, 111, 56, 56, 53, 57, 54], mkT [105, 115, 111, 95, 56, 56, 53, 57, 45, 54], mkT [105, 115, 111, 95, 56, 56, 53, 57, 45, 54, 58, 49, 57, 56, 55]],
  [mkT [73, 83, 79, 45, 56, 56, 53, 57, 45, 55], mkT [99, 115, 105, 115, 111, 108, 97, 116, 105, 110, 103, 114, 101, 101, 107], mkT [101, 99, 109, 97, 45, 49, 49, 56], mkT [101, 108, 111, 116, 95, 57, 50, 56], mkT [103, 114, 101, 101, 107], mkT [103, 114, 101, 101, 107, 56], mkT [105, 115, 111, 45, 56, 56, 53, 57, 45, 55], mkT [105, 115, 111, 45, 105, 114, 45, 49, 50, 54], mkT [105, 115, 111, 56, 56, 53, 57, 45, 55], mkT [105, 115, 111, 56, 56, 53, 57, 55], mkT [105, 115, 111, 95, 56, 56, 53, 57, 45, 55], mkT [105, 115, 111, 95, 56, 56, 53, 57, 45, 55, 58, 49, 57, 56, 55], mkT [115, 117, 110, 95, 101, 117, 95, 103, 114, 101, 101, 107]],
  [mkT [73, 83, 79, 45, 56, 56, 53, 57, 45, 56], mkT [99, 115, 105, 115, 111, 56, 56, 53, 57, 56, 101], mkT [99, 115, 105, 115, 111, 108, 97, 116, 105, 110, 104, 101, 98, 114, 101, 119], mkT [104, 101, 98, 114, 101, 119], mkT [105, 115, 111, 45, 56, 56, 53, 57, 45, 56], mkT [105, 115, 111, 45, 56, 56, 53, 57, 45, 56, 45, 101], mkT [105, 115, 111, 45, 105, 114, 45, 49, 51, 56], mkT [105, 115, 111, 56, 56, 53, 57, 45, 56], mkT [105, 115, 111, 56, 56, 53, 57, 56], mkT [105, 115, 111, 95, 56, 56, 53, 57, 45, 56], mkT [105, 115, 111, 95, 56, 56, 53, 57, 45, 56, 58, 49, 57, 56, 56], mkT [118, 105, 115, 117, 97, 108]],
  [mkT [73, 83, 79, 45, 56, 56, 53, 57, 45, 56, 45, 73], mkT [99, 115, 105, 115, 111, 56, 56, 53, 57, 56, 105], mkT [105, 115, 111, 45, 56, 56, 53, 57, 45, 56, 45, 105], mkT [108, 111, 103, 105, 99, 97, 108]],
  [mkT [73, 83, 79, 45, 56, 56, 53, 57, 45, 49, 48], mkT [99, 115, 105, 115, 111, 108, 97, 116, 105, 110, 54], mkT [105, 115, 111, 45, 56, 56, 53, 57, 45, 49, 48], mkT [105, 115, 111, 45, 105, 114, 45, 49, 53, 55], mkT [105, 115, 111, 56, 56, 53, 57, 45, 49, 48], mkT [105, 115, 111, 56, 56, 53, 57, 49, 48], mkT [108, 54], mkT [108, 97, 116, 105, 110, 54]],
  [mkT [73, 83, 79, 45, 56, 56, 53, 57, 45, 49, 51], mkT [105, 115, 111, 45, 56, 56, 53, 57, 45, 49, 51], mkT [105, 115, 111, 56, 56, 53, 57, 45, 49, 51], mkT [105, 115, 111, 56, 56, 53, 57, 49, 51]],
  [mkT [73, 83, 79, 45, 56, 56, 53, 57, 45, 49, 52], mkT [105, 115, 111, 45, 56, 56, 53, 57, 45, 49, 52], mkT [105, 115, 111, 56, 56, 53, 57, 45, 49, 52], mkT [105, 115, 111, 56, 56, 53, 57, 49, 52]],
  [mkT [73, 83, 79, 45, 56, 56, 53, 57, 45, 49, 53], mkT [99, 115, 105, 115, 111, 108, 97, 116, 105, 110, 57], mkT [105, 115, 111, 45, 56, 56, 53, 57, 45, 49, 53], mkT [105, 115, 111, 56, 56, 53, 57, 45, 49, 53], mkT [105, 115, 111, 56, 56, 53, 57, 49, 53], mkT [105, 115, 111, 95, 56, 56, 53, 57, 45, 49, 53], mkT [108, 57]],
  [mkT [73, 83, 79, 45, 56, 56, 53, 57, 45, 49, 54], mkT [105, 115, 111, 45, 56, 56, 53, 57, 45, 49, 54]],
  [mkT [75, 79, 73, 56, 45, 82], mkT [99, 115, 107, 111, 105, 56, 114], mkT [107, 111, 105], mkT [107, 111, 105, 56], mkT [107, 111, 105, 56, 45, 114], mkT [107, 111, 105, 56, 95, 114]],
  [mkT [75, 79, 73, 56, 45, 85], mkT [107, 111, 105, 56, 45, 114, 117], mkT [107, 111, 105, 56, 45, 117]],
  [mkT [109, 97, 99, 105, 110, 116, 111, 115, 104], mkT [99, 115, 109, 97, 99, 105, 110, 116, 111, 115, 104], mkT [109, 97, 99], mkT [109, 97, 99, 105, 110, 116, 111, 115, 104], mkT [120, 45, 109, 97, 99, 45, 114, 111, 109, 97, 110]],
  [mkT [119, 105, 110, 100, 111, 119, 115, 45, 56, 55, 52], mkT [100, 111, 115, 45, 56, 55, 52], mkT [105, 115, 111, 45, 56, 56, 53, 57, 45, 49, 49], mkT [105, 115, 111, 56, 56, 53, 57, 45, 49, 49], mkT [105, 115, 111, 56, 56, 53, 57, 49, 49], mkT [116, 105, 115, 45, 54, 50, 48], mkT [119, 105, 110, 100, 111, 119, 115, 45, 56, 55, 52]],
  [mkT [119, 105, 110, 100, 111, 119, 115, 45, 49, 50, 53, 48], mkT [99, 112, 49, 50, 53, 48], mkT [119, 105, 110, 100, 111, 119, 115, 45, 49, 50, 53, 48], mkT [120, 45, 99, 112, 49, 50, 53, 48]],
  [mkT [119, 105, 110, 100, 111, 119, 115, 45, 49, 50, 53, 49], mkT [99, 112, 49, 50, 53, 49], mkT [119, 105, 110, 100, 111, 119, 115, 45, 49, 50, 53, 49], mkT [120, 45, 99, 112, 49, 50, 53, 49]],
  [mkT [119, 105, 110, 100, 111, 119, 115, 45, 49, 50, 53, 50], mkT [97, 110, 115, 105, 95, 120, 51, 46, 52, 45, 49, 57, 54, 56], mkT [97, 115, 99, 105, 105], mkT [99, 112, 49, 50, 53, 50], mkT [99, 112, 56, 49, 57], mkT [99, 115, 105, 115, 111, 108, 97, 116, 105, 110, 49], mkT [105, 98, 109, 56, 49, 57], mkT [105, 115, 111, 45, 56, 56, 53, 57, 45, 49], mkT [105, 115, 111, 45, 105, 114, 45, 49, 48, 48], mkT [105, 115, 111, 56, 56, 53, 57, 45, 49], mkT [105, 115, 111, 56, 56, 53, 57, 49], mkT [105, 115, 111, 95, 56, 56, 53, 57, 45, 49], mkT [105, 115, 111, 95, 56, 56, 53, 57, 45, 49, 58, 49, 57, 56, 55], mkT [108, 49], mkT [108, 97, 116, 105, 110, 49], mkT [117, 115, 45, 97, 115, 99, 105, 105], mkT [119, 105, 110, 100, 111, 119, 115, 45, 49, 50, 53, 50], mkT [120, 45, 99, 112, 49, 50, 53, 50]],
  [mkT [119, 105, 110, 100, 111, 119, 115, 45, 49, 50, 53, 51], mkT [99, 112, 49, 50, 53, 51], mkT [119, 105, 110, 100, 111, 119, 115, 45, 49, 50, 53, 51], mkT [120, 45, 99, 112, 49, 50, 53, 51]],
  [mkT [119, 105, 110, 100, 111, 119, 115, 45, 49, 50, 53, 52], mkT [99, 112, 49, 50, 53, 52], mkT [99, 115, 105, 115, 111, 108, 97, 116, 105, 110, 53], mkT [105, 115, 111, 45, 56, 56, 53, 57, 45, 57], mkT [105, 115, 111, 45, 105, 114, 45, 49, 52, 56], mkT [105, 115, 111, 56, 56, 53, 57, 45, 57], mkT [105, 115, 111, 56, 56, 53, 57, 57], mkT [105, 115, 111, 95, 56, 56, 53, 57, 45, 57], mkT [105, 115, 111, 95, 56, 56, 53, 57, 45, 57, 58, 49, 57, 56, 57], mkT [108, 53], mkT [108, 97, 116, 105, 110, 53], mkT [119, 105, 110, 100, 111, 119, 115, 45, 49, 50, 53, 52], mkT [120, 45, 99, 112, 49, 50, 53, 52]],
  [mkT [119, 105, 110, 100, 111, 119, 115, 45, 49, 50, 53, 53], mkT [99, 112, 49, 50, 53, 53], mkT [119, 105, 110, 100, 111, 119, 115, 45, 49, 50, 53, 53], mkT [120, 45, 99, 112, 49, 50, 53, 53]],
  [mkT [119, 105, 110, 100, 111, 119, 115, 45, 49, 50, 53, 54], mkT [99, 112, 49, 50, 53, 54], mkT [119, 105, 110, 100, 111, 119, 115, 45, 49, 50, 53, 54], mkT [120, 45, 99, 112, 49, 50, 53, 54]],
  [mkT [119, 105, 110, 100, 111, 119, 115, 45, 49, 50, 53, 55], mkT [99, 112, 49, 50, 53, 55], mkT [119, 105, 110, 100, 111, 119, 115, 45, 49, 50, 53, 55], mkT [120, 45, 99, 112, 49, 50, 53, 55]],
  [mkT [119, 105, 110, 100, 111, 119, 115, 45, 49, 50, 53, 56], mkT [99, 112, 49, 50, 53, 56], mkT [119, 105, 110, 100, 111, 119, 115, 45, 49, 50, 53, 56], mkT [120, 45, 99, 112, 49, 50, 53, 56]],
  [mkT [120, 45, 109, 97, 99, 45, 99, 121, 114, 105, 108, 108, 105, 99], mkT [120, 45, 109, 97, 99, 45, 99, 121, 114, 105, 108, 108, 105, 99], mkT [120, 45, 109, 97, 99, 45, 117, 107, 114, 97, 105, 110, 105, 97, 110]],
  [mkT [71, 66, 75], mkT [99, 104, 105, 110, 101, 115, 101], mkT [99, 115, 103, 98, 50, 51, 49, 50], mkT [99, 115, 105, 115, 111, 53, 56, 103, 98, 50, 51, 49, 50, 56, 48], mkT [103, 98, 50, 51, 49, 50], mkT [103, 98, 95, 50, 51, 49, 50], mkT [103, 98, 95, 50, 51, 49, 50, 45, 56, 48], mkT [103, 98, 107], mkT [105, 115, 111, 45, 105, 114, 45, 53, 56], mkT [120, 45, 103, 98, 107]],
  [mkT [103, 98, 49, 56, 48, 51, 48], mkT [103, 98, 49, 56, 48, 51, 48]],
  [mkT [66, 105, 103, 53], mkT [98, 105, 103, 53], mkT [98, 105, 103, 53, 45, 104, 107, 115, 99, 115], mkT [99, 110, 45, 98, 105, 103, 53], mkT [99, 115, 98, 105, 103, 53], mkT [120, 45, 120, 45, 98, 105, 103, 53]],
  [mkT [69, 85, 67, 45, 74, 80], mkT [99, 115, 101, 117, 99, 112, 107, 100, 102, 109, 116, 106, 97, 112, 97, 110, 101, 115, 101], mkT [101, 117, 99, 45, 106, 112], mkT [120, 45, 101, 117, 99, 45, 106, 112]],
  [mkT [73, 83, 79, 45, 50, 48, 50, 50, 45, 74, 80], mkT [99, 115, 105, 115, 111, 50, 48, 50, 50, 106, 112], mkT [105, 115, 111, 45, 50, 48, 50, 50, 45, 106, 112]],
  [mkT [83, 104, 105, 102, 116, 95, 74, 73, 83], mkT [99, 115, 115, 104, 105, 102, 116, 106, 105, 115], mkT [109, 115, 57, 51, 50], mkT [109, 115, 95, 107, 97, 110, 106, 105], mkT [115, 104, 105, 102, 116, 45, 106, 105, 115], mkT [115, 104, 105, 102, 116, 95, 106, 105, 115], mkT [115, 106, 105, 115], mkT [119, 105, 110, 100, 111, 119, 115, 45, 51, 49, 106], mkT [120, 45, 115, 106, 105, 115]],
  [mkT [69, 85, 67, 45, 75, 82], mkT [99, 115, 101, 117, 99, 107, 114], mkT [99, 115, 107, 115, 99, 53, 54, 48, 49, 49, 57, 56, 55], mkT [101, 117, 99, 45, 107, 114], mkT [105, 115, 111, 45, 105, 114, 45, 49, 52, 57], mkT [107, 111, 114, 101, 97, 110], mkT [107, 115, 95, 99, 95, 53, 54, 48, 49, 45, 49, 57, 56, 55], mkT [107, 115, 95, 99, 95, 53, 54, 48, 49, 45, 49, 57, 56, 57], mkT [107, 115, 99, 53, 54, 48, 49], mkT [107, 115, 99, 95, 53, 54, 48, 49], mkT [119, 105, 110, 100, 111, 119, 115, 45, 57, 52, 57]],
  [mkT [114, 101, 112, 108, 97, 99, 101, 109, 101, 110, 116], mkT [99, 115, 105, 115, 111, 50, 48, 50, 50, 107, 114], mkT [104, 122, 45, 103, 98, 45, 50, 51, 49, 50], mkT [105, 115, 111, 45, 50, 48, 50, 50, 45, 99, 110], mkT [105, 115, 111, 45, 50, 48, 50, 50, 45, 99, 110, 45, 101, 120, 116], mkT [105, 115, 111, 45, 50, 48, 50, 50, 45, 107, 114], mkT [114, 101, 112, 108, 97, 99, 101, 109, 101, 110, 116]],
  [mkT [85, 84, 70, 45, 49, 54, 66, 69], mkT [117, 110, 105, 99, 111, 100, 101, 102, 102, 102, 101], mkT [117, 116, 102, 45, 49, 54, 98, 101]],
  [mkT [85, 84, 70, 45, 49, 54, 76, 69], mkT [99, 115, 117, 110, 105, 99, 111, 100, 101], mkT [105, 115, 111, 45, 49, 48, 54, 52, 54, 45, 117, 99, 115, 45, 50], mkT [117, 99, 115, 45, 50], mkT [117, 110, 105, 99, 111, 100, 101], mkT [117, 110, 105, 99, 111, 100, 101, 102, 101, 102, 102], mkT [117, 116, 102, 45, 49, 54], mkT [117, 116, 102, 45, 49, 54, 108, 101]],
  [mkT [120, 45, 117, 115, 101, 114, 45, 100, 101, 102, 105, 110, 101, 100], mkT [120, 45, 117, 115, 101, 114, 45, 100, 101, 102, 105, 110, 101, 100]]]
theorem rows_split : rowsT.map (fun r => Txt.split r (Str.ofString " ")) = rowsW := by
  have e : rowsT.map (fun r => (splitL 32 r.cps.toList).map mkT) = rowsW := by decide +kernel
  rw [← e, show Str.ofString " " = ⟨#[32]⟩ by decide +kernel]
  exact List.map_congr_left fun r _ => split_mk r 32
theorem rows_len : ∀ r ∈ rowsT, r.length ≤ 300 := by decide +kernel
theorem rowsW_len : ∀ r ∈ rowsW, r.length ≤ 40 := by decide +kernel
noncomputable def encRow (w r : Str) : Option Str := match Txt.split r (Str.ofString " ") with
  | p :: rest => if rest.any (fun y => y == w) = true then some p else none
  | [] => none
noncomputable def encF (w : Str) : Option Str := rowsT.findSome? (encRow w)
theorem find_at {α β : Type} {f : α → Option β} {p : β} {r : α} : ∀ {l : List α} {i : Nat}, (∀ j, j < i → ∀ r', l[j]? = some r' → f r' = none) → l[i]? = some r → f r = some p → l.findSome? f = some p
  | [], _, _, h, _ => by simp at h
  | a :: l, 0, _, h, e => by
    have e1 : a = r := by simpa using h
    subst e1
    simp [List.findSome?, e]
  | a :: l, i + 1, hn, h, e => by
    have e0 := hn 0 (Nat.succ_pos _) a rfl
    rw [List.findSome?_cons, e0]
    exact find_at (l := l) (i := i) (fun j hj r' hr => hn (j + 1) (Nat.succ_lt_succ hj) r' (by simpa using hr)) (by simpa using h) e
theorem find_none {α β : Type} {f : α → Option β} {l : List α} {n : Nat} (hn : l.length ≤ n) (h : ∀ j, j < n → ∀ r', l[j]? = some r' → f r' = none) : l.findSome? f = none := by
  rw [List.findSome?_eq_none_iff]
  intro r hr
  obtain ⟨j, hj, e⟩ := List.getElem_of_mem hr
  exact h j (by omega) r (by rw [List.getElem?_eq_getElem hj, e])
theorem strsAre_get {vs : List Value} {zs : List Str} (h : StrsAre vs zs) : ∀ {i : Nat} {v : Value}, vs[i]? = some v → ∃ z t, zs[i]? = some z ∧ v = .str z t := by
  induction h with
  | nil => intro i v h; simp at h
  | cons z t _ ih =>
    intro i v hv
    cases i with
    | zero => exact ⟨z, t, rfl, by simpa using hv.symm⟩
    | succ i => simpa using ih (by simpa using hv)
theorem rows_get {items : Array Value} {i : Nat} {v : Value} (hv : items[i]? = some v) (hS : StrsAre items.toList rowsT) : ∃ r t, rowsT[i]? = some r ∧ v = .str r t ∧ r.length ≤ 300 := by
  obtain ⟨r, t, e1, e2⟩ := strsAre_get hS (by simpa using hv)
  exact ⟨r, t, e1, e2, rows_len r (List.mem_of_getElem? e1)⟩
theorem split_len {i : Nat} {r : Str} (h : rowsT[i]? = some r) : (Txt.split r (Str.ofString " ")).length ≤ 40 := by
  refine rowsW_len _ ?_
  rw [← rows_split]
  exact List.mem_map_of_mem (List.mem_of_getElem? h)

-- text NewA
/-- a contract of a def without arguments that makes one object, above objects of its own -/
noncomputable def CtNew (w : World) (n : Nat) (f : Addr) (G : Obj → List (Addr × Obj) → Prop) : Prop :=
  ∀ (mean : ExcName → Option Value) (mg mb : Str → Option Value) (news : List (Addr × Obj)) (dp un : Nat) (gd : Option (List Code)) (cn : Str) (cs : Scope) (a : Addr) (ccd : Value) (cl : List (Str × Addr)) (outer : List Env) (A₀ : Around) (base h₀ : Heap) (L : Addr) (m : Str → Option Value) (s : Shared) (Q E : Value → Shared → Prop),
    Below A₀ base outer h₀ → Fr h₀ L s.heap m → (hd.heap_39 w.params).In h₀ → News h₀ L s.heap news → Top hd.view_39 (looseW hd.view_39 []) mean mg mb h₀ → cs.kind = .function →
    dp + n < recursionLimit → un + 8 * n < cLine →
    (∀ (l : Addr) (o : Obj) (own : List (Addr × Obj)) (h' : Heap) (tk' : Nat), G o own → (∀ p ∈ own ++ news, p.1 < l) → Fr h₀ L h' m → News h₀ L h' ((l, o) :: (own ++ news)) → Q (.ref l) { s with heap := h', toks := tk' }) →
      wpAny (model PySem.Challenge.rw_nt0592_01.row.prog w) (ktrTop dp un gd cn cs L a ccd cl outer) (call (.ref f) []) Q E s
theorem useNew {w : World} {n : Nat} {f : Addr} {G : Obj → List (Addr × Obj) → Prop} (C : CtNew w n f G)
    {mean : ExcName → Option Value} {mg mb : Str → Option Value} {news : List (Addr × Obj)} {dp un : Nat} {gd : Option (List Code)} {cn : Str} {cs : Scope} {a : Addr} {ccd : Value} {cl : List (Str × Addr)} {outer : List Env} {A₀ : Around} {base h₀ : Heap} {L : Addr} {m : Str → Option Value} {s : Shared} {Q E : Value → Shared → Prop}
    (k1 : Below A₀ base outer h₀) (k2 : Fr h₀ L s.heap m) (k3 : (hd.heap_39 w.params).In h₀) (k4 : News h₀ L s.heap news) (k5 : Top hd.view_39 (looseW hd.view_39 []) mean mg mb h₀) (kK : cs.kind = .function)
    (kd : dp + n < recursionLimit) (ku : un + 8 * n < cLine)
    (kR : ∀ (l : Addr) (o : Obj) (own : List (Addr × Obj)) (h' : Heap) (tk' : Nat), G o own → (∀ p ∈ own ++ news, p.1 < l) → Fr h₀ L h' m → News h₀ L h' ((l, o) :: (own ++ news)) → Q (.ref l) { s with heap := h', toks := tk' }) :
    wpAny (model PySem.Challenge.rw_nt0592_01.row.prog w) (ktrTop dp un gd cn cs L a ccd cl outer) (call (.ref f) []) Q E s :=
  C _ _ _ _ _ _ _ _ _ _ _ _ _ _ _ _ _ _ _ _ _ k1 k2 k3 k4 k5 kK kd ku kR
/-- rest is own ahead of news -/
inductive Spl : List (Addr × Obj) → List (Addr × Obj) → List (Addr × Obj) → Prop
  | nil {n} : Spl n [] n
  | cons {x r o n} : Spl r o n → Spl (x :: r) (x :: o) n
theorem Spl.eq {r o n : List (Addr × Obj)} (h : Spl r o n) : r = o ++ n := by
  induction h with
  | nil => rfl
  | cons _ ih => rw [ih]; rfl
theorem retNew {h₀ h' : Heap} {L : Addr} {m : Str → Option Value} {news rest : List (Addr × Obj)} {s : Shared} {Q : Value → Shared → Prop} {G : Obj → List (Addr × Obj) → Prop} {l : Addr} {o : Obj} {tk' : Nat}
    (hret : ∀ (l : Addr) (o : Obj) (own : List (Addr × Obj)) (h' : Heap) (tk' : Nat), G o own → (∀ p ∈ own ++ news, p.1 < l) → Fr h₀ L h' m → News h₀ L h' ((l, o) :: (own ++ news)) → Q (.ref l) { s with heap := h', toks := tk' })
    (F : Fr h₀ L h' m) (N : News h₀ L h' ((l, o) :: rest)) (hl : ∀ p ∈ rest, p.1 < l) (hg : ∃ own, Spl rest own news ∧ G o own) : Q (.ref l) { s with heap := h', toks := tk' } := by
  obtain ⟨own, hs, g⟩ := hg
  have e := hs.eq
  subst e
  exact hret l o own h' tk' g hl F N
noncomputable def LAB : List (Str × Option Str) := [(Str.ofString "utf-8", some (Str.ofString "UTF-8")), (Str.ofString "koi8-r", some (Str.ofString "KOI8-R")), (Str.ofString "unicode", some (Str.ofString "UTF-16LE")), (Str.ofString "x-user-defined", some (Str.ofString "x-user-defined")), (Str.ofString "nought", none), (Str.ofString "utf-16be", some (Str.ofString "UTF-16BE")), (Str.ofString "l9", some (Str.ofString "ISO-8859-15")), (Str.ofString "tis-620", some (Str.ofString "windows-874")), (Str.ofString "logical", some (Str.ofString "ISO-8859-8-I")), (Str.ofString "sjis", some (Str.ofString "Shift_JIS")), (Str.ofString "cyrillic", some (Str.ofString "ISO-8859-5")), (Str.ofString "us-ascii", some (Str.ofString "windows-1252")), (Str.ofString "gbk", some (Str.ofString "GBK")), (Str.ofString "koi8", some (Str.ofString "KOI8-R")), (Str.ofString "koi", some (Str.ofString "KOI8-R")), (Str.ofString "utf-16", some (Str.ofString "UTF-16LE"))]
/-- a tuple of five ints -/
noncomputable def IntTup (its : Array Value) : Prop := its.size = 5 ∧ ∀ (i : Nat) v, its[i]? = some v → ∃ z t, v = .int z t
theorem intTup {a0 a1 a2 a3 a4 : Int} {t0 t1 t2 t3 t4 : Tok} : IntTup #[.int a0 t0, .int a1 t1, .int a2 t2, .int a3 t3, .int a4 t4] := by
  refine ⟨rfl, fun i v h => ?_⟩
  rcases i with _ | _ | _ | _ | _ | i
  · exact ⟨_, _, (Option.some.inj h).symm⟩
  · exact ⟨_, _, (Option.some.inj h).symm⟩
  · exact ⟨_, _, (Option.some.inj h).symm⟩
  · exact ⟨_, _, (Option.some.inj h).symm⟩
  · exact ⟨_, _, (Option.some.inj h).symm⟩
  · simp at h
/-- a list of such tuples -/
inductive RowsAre (news : List (Addr × Obj)) : List Value → Prop
  | nil : RowsAre news []
  | cons {a : Addr} {its : Array Value} {vs} : (a, ({ cls := .type "tuple", data := .seq its } : Obj)) ∈ news → IntTup its → RowsAre news vs → RowsAre news (.ref a :: vs)
theorem kw6 : True := by
  k_with "SPL" => (first | exact Spl.nil | exact Spl.cons (by walk_at "SPL"))
  trivial
theorem rows_c (w : World) : CtNew w 2 49 (fun o own => own = [] ∧ ∃ items, o = { cls := .type "tuple", data := .seq items } ∧ StrsAre items.toList rowsT) := by
  unfold CtNew; k_fill; intro mean mg mb news dp un gd cn cs a ccd cl outer A₀ base h₀ L m s Q E B F X N T hk hd hu hret
  walk_at "ENTER"
  k_steps
  exact retNew hret (by assumption) (by assumption) (by assumption) ⟨_, .nil, rfl, _, rfl, by repeat constructor⟩
theorem PairsAre.mono {n1 n2 : List (Addr × Obj)} {vs : List Value} {r : List (Str × Option Str)} (h : PairsAre n1 vs r) (hs : ∀ p ∈ n1, p ∈ n2) : PairsAre n2 vs r := by
  induction h with
  | nil => exact .nil
  | cons hm e _ ih => exact .cons (hs _ hm) e ih
theorem PairsAre.snoc {n : List (Addr × Obj)} {a : Addr} {x : Str} {y : Option Str} {t t' : Tok} {vs : List Value} {r : List (Str × Option Str)} (h : PairsAre n vs r) : PairsAre ((a, { cls := .type "tuple", data := .seq #[.str x t, optV y t'] }) :: n) (vs ++ [.ref a]) (r ++ [(x, y)]) := by
  generalize hn : ((a, ({ cls := .type "tuple", data := .seq #[.str x t, optV y t'] } : Obj)) :: n) = n'
  have hs : ∀ p ∈ n, p ∈ n' := fun p hp => hn ▸ List.mem_cons_of_mem _ hp
  have hm : (a, ({ cls := .type "tuple", data := .seq #[.str x t, optV y t'] } : Obj)) ∈ n' := hn ▸ List.mem_cons_self
  clear hn
  induction h with
  | nil => exact .cons hm ⟨t', rfl⟩ .nil
  | cons hm e _ ih => exact .cons (hs _ hm) e ih
theorem PairsAre.len {n : List (Addr × Obj)} {vs : List Value} {r : List (Str × Option Str)} (h : PairsAre n vs r) : vs.length = r.length := by
  induction h with
  | nil => rfl
  | cons _ _ _ ih => exact congrArg Nat.succ ih
/-- the pairs so far lie in own -/
noncomputable def Own (news own rest : List (Addr × Obj)) (vs : List Value) (r : List (Str × Option Str)) : Prop := rest = own ++ news ∧ PairsAre own vs r
theorem hideS {P : Prop} {h₀ h' : Heap} {L D : Addr} {news own rest : List (Addr × Obj)} {us vs : List Value} {r : List (Str × Option Str)} {x y : Str} {t t' : Tok} (hO : Own news own rest us r) (N : News h₀ L h' ((D, ({ cls := .type "tuple", data := .seq vs.toArray } : Obj)) :: rest)) (hv : vs = [.str x t, .str y t'])
    (h : ∀ own' rest', Own news own' rest' (us ++ [.ref D]) (r ++ [(x, some y)]) → News h₀ L h' rest' → P) : P :=
  h ((D, { cls := .type "tuple", data := .seq #[.str x t, optV (some y) t'] }) :: own) _ ⟨rfl, hO.2.snoc⟩ (by rw [hO.1] at N; subst hv; exact N)
theorem hideN {P : Prop} {h₀ h' : Heap} {L D : Addr} {news own rest : List (Addr × Obj)} {us vs : List Value} {r : List (Str × Option Str)} {x : Str} {t : Tok} (hO : Own news own rest us r) (N : News h₀ L h' ((D, ({ cls := .type "tuple", data := .seq vs.toArray } : Obj)) :: rest)) (hv : vs = [.str x t, .none])
    (h : ∀ own' rest', Own news own' rest' (us ++ [.ref D]) (r ++ [(x, none)]) → News h₀ L h' rest' → P) : P :=
  h ((D, { cls := .type "tuple", data := .seq #[.str x t, optV (none) 0] }) :: own) _ ⟨rfl, hO.2.snoc⟩ (by rw [hO.1] at N; subst hv; exact N)
theorem retOwn {h₀ h' : Heap} {L : Addr} {m : Str → Option Value} {news rest own : List (Addr × Obj)} {s : Shared} {Q : Value → Shared → Prop} {l : Addr} {vs us : List Value} {r : List (Str × Option Str)} {k : Nat} {tk' : Nat}
    (hret : ∀ (l : Addr) (o : Obj) (own : List (Addr × Obj)) (h' : Heap) (tk' : Nat), (∃ vs k, o = listOf (List.toArray vs) k ∧ PairsAre own vs LAB ∧ vs.length = 16) → (∀ p ∈ own ++ news, p.1 < l) → Fr h₀ L h' m → News h₀ L h' ((l, o) :: (own ++ news)) → Q (.ref l) { s with heap := h', toks := tk' })
    (hO : Own news own rest us r) (F : Fr h₀ L h' m) (N : News h₀ L h' ((l, listOf (List.toArray vs) k) :: rest)) (hl : ∀ p ∈ rest, p.1 < l) (hu : us = vs) (hr : r = LAB) : Q (.ref l) { s with heap := h', toks := tk' } := by
  obtain ⟨e, hP⟩ := hO
  subst e hu hr
  exact hret l _ own h' tk' ⟨_, k, rfl, hP, by rw [hP.len]; rfl⟩ hl F N
local macro_rules | `(tactic| walk_at "NEWTUP") => `(tactic| k_dflt (refine' kup_newTuple ?F ?N ?_ ?z; (case F => k_asm); (case N => k_asm); (case z => kmk_size)))
theorem kw7 : True := by
  k_with "newTuple" => (k_here; (rename Own _ _ _ _ _ => hO'); walk_at "NEWTUP"; intro D' h' F' N' l1; clear l1; k_dflt (first | (have hH' := fun P => hideS (P := P) hO' N' rfl) | (have hH' := fun P => hideN (P := P) hO' N' rfl)); clear hO' N'; refine hH' _ ?_; clear hH'; intro own' rest' hO' N'; (try k_sweep); (try k_fold))
  trivial
theorem labels_c (w : World) : CtNew w 2 103 (fun o own => ∃ vs k, o = listOf (List.toArray vs) k ∧ PairsAre own vs LAB ∧ vs.length = 16) := by
  unfold CtNew; k_fill; intro mean mg mb news dp un gd cn cs a ccd cl outer A₀ base h₀ L m s Q E B F X N T hk hd hu hret
  have hO : Own news [] news [] [] := ⟨rfl, .nil⟩
  walk_at "ENTER"
  k_steps
  rename Own _ _ _ _ _ => hO'
  refine' retOwn hret hO' ?F ?N ?hl ?hu ?hr
  case F => k_asm
  case N => k_asm
  case hl => assumption
  case hu => rfl
  case hr => rfl
theorem useLabels {w : World}
    {mean : ExcName → Option Value} {mg mb : Str → Option Value} {news : List (Addr × Obj)} {dp un : Nat} {gd : Option (List Code)} {cn : Str} {cs : Scope} {a : Addr} {ccd : Value} {cl : List (Str × Addr)} {outer : List Env} {A₀ : Around} {base h₀ : Heap} {L : Addr} {m : Str → Option Value} {s : Shared} {Q E : Value → Shared → Prop}
    (k1 : Below A₀ base outer h₀) (k2 : Fr h₀ L s.heap m) (k3 : (hd.heap_39 w.params).In h₀) (k4 : News h₀ L s.heap news) (k5 : Top hd.view_39 (looseW hd.view_39 []) mean mg mb h₀) (kK : cs.kind = .function)
    (kd : dp + 2 < recursionLimit) (ku : un + 8 * 2 < cLine)
    (kR : ∀ (l : Addr) (own : List (Addr × Obj)) (vs : List Value) (k : Nat) (h' : Heap) (tk' : Nat), PairsAre own vs LAB → vs.length = 16 → (∀ p ∈ own ++ news, p.1 < l) → Fr h₀ L h' m → News h₀ L h' ((l, listOf vs.toArray k) :: (own ++ news)) → Q (.ref l) { s with heap := h', toks := tk' }) :
    wpAny (model PySem.Challenge.rw_nt0592_01.row.prog w) (ktrTop dp un gd cn cs L a ccd cl outer) (call (.ref 103) []) Q E s := by
  refine useNew (labels_c w) k1 k2 k3 k4 k5 kK kd ku ?_
  rintro l o own h' tk' ⟨vs, k, rfl, hP, hl⟩ hlt F N
  exact kR l own vs k h' tk' hP hl hlt F N
theorem useRows {w : World}
    {mean : ExcName → Option Value} {mg mb : Str → Option Value} {news : List (Addr × Obj)} {dp un : Nat} {gd : Option (List Code)} {cn : Str} {cs : Scope} {a : Addr} {ccd : Value} {cl : List (Str × Addr)} {outer : List Env} {A₀ : Around} {base h₀ : Heap} {L : Addr} {m : Str → Option Value} {s : Shared} {Q E : Value → Shared → Prop}
    (k1 : Below A₀ base outer h₀) (k2 : Fr h₀ L s.heap m) (k3 : (hd.heap_39 w.params).In h₀) (k4 : News h₀ L s.heap news) (k5 : Top hd.view_39 (looseW hd.view_39 []) mean mg mb h₀) (kK : cs.kind = .function)
    (kd : dp + 2 < recursionLimit) (ku : un + 8 * 2 < cLine)
    (kR : ∀ (l : Addr) (items : Array Value) (h' : Heap) (tk' : Nat), StrsAre items.toList rowsT → (∀ p ∈ news, p.1 < l) → Fr h₀ L h' m → News h₀ L h' ((l, { cls := .type "tuple", data := .seq items }) :: news) → Q (.ref l) { s with heap := h', toks := tk' }) :
    wpAny (model PySem.Challenge.rw_nt0592_01.row.prog w) (ktrTop dp un gd cn cs L a ccd cl outer) (call (.ref 49) []) Q E s := by
  refine useNew (rows_c w) k1 k2 k3 k4 k5 kK kd ku ?_
  rintro l o own h' tk' ⟨rfl, items, rfl, hS⟩ hlt F N
  exact kR l items h' tk' hS hlt F N

-- text C9
theorem item_low {x : Str} {i : Int} (h0 : 0 ≤ i) (h1 : i < (x.length : Int)) (h : ∀ k ∈ KStt.codes x, 32 < k ∧ k < 256) : ∃ n, Txt.item x i = one n ∧ 32 < n := by
  obtain ⟨n, hn⟩ := StrLaws.some_at h0 h1
  refine ⟨n, ?_, ?_⟩
  · unfold Txt.item Txt.charAt
    rw [StrLaws.at_nonneg h0 hn]; rfl
  · have := h n (List.mem_of_getElem? (KStt.code_at hn))
    omega
theorem one_inj {a b : Nat} (h : one a = one b) : a = b := by
  have e : (one a).cps.toList = (one b).cps.toList := by rw [h]
  exact List.head_eq_of_cons_eq e
theorem one_beq {a b : Nat} (h : a ≠ b) : (one a == one b) = false := beq_eq_false_iff_ne.mpr fun e => h (one_inj e)
theorem spaces_end {c : Str} (h : ∃ n, c = one n ∧ 32 < n) : ([Str.ofString "\t", Str.ofString "\n", Str.ofString "\x0c", Str.ofString "\x0d", Str.ofString " "].any fun x => x == c) = false := by
  obtain ⟨n, rfl, hn⟩ := h
  rw [show ([Str.ofString "\t", Str.ofString "\n", Str.ofString "\x0c", Str.ofString "\x0d", Str.ofString " "] : List Str) = [one 9, one 10, one 12, one 13, one 32] by decide +kernel]
  simp only [List.any_cons, List.any_nil]
  rw [one_beq (by omega), one_beq (by omega), one_beq (by omega), one_beq (by omega), one_beq (by omega)]
  rfl
theorem is_space_c (w : World) (c : Str) (t : Tok) : Ct w 2 21 (∃ n, c = one n ∧ 32 < n) [.str c t] (fun x => x = false) (fun x _ => .bool x) := by
  walk_at "BEGIN"; intro mean mg mb news dp un gd cn cs a ccd cl outer A₀ base h₀ L m s Q E B F X N T hk hd hu hp hret
  walk_at "ENTER"
  k_steps
  exact retCt hret _ (t := 0) (by assumption) (by assumption) (fun _ hp => .tail _ hp) (spaces_end hp)
theorem kw8 : True := by
  k_with "call ref" => (k_here; (refine' useCt0 (is_space_c _ _ _) (by k_asm) (by k_asm) (by k_asm) (by k_asm) (by k_asm) (by exact rfl) (by ktr_room) (by ktr_units) (by (first | assumption | exact item_low (by omega) (by omega) (by assumption))) ?_); intro x' t' h' tk' g' F' N'; subst g'; (try dsimp only); (try k_sweep); (try k_fold))
  trivial

theorem skip_spaces_c (w : World) (x : Str) (t : Tok) (t' : Tok) : Ct w 4 56 (x.length ≤ 1000 ∧ ∀ k ∈ KStt.codes x, 32 < k ∧ k < 256) [.str x t, .int 0 t'] (fun x => x = 0) (fun x t => .int x t) := by
  walk_at "BEGIN"; intro mean mg mb news dp un gd cn cs a ccd cl outer A₀ base h₀ L m s Q E B F X N T hk hd hu hp hret
  obtain ⟨hl, hlow⟩ := hp
  walk_at "ENTER"
  k_with "exec While BoolOp cons nil" => refine whl_start 1 ?_
  k_steps
  all_goals exact retCt hret _ (by assumption) (by assumption) (fun _ hp => hp) rfl

-- text C10
theorem kw9 : True := by
  k_with "call ref" => (k_here; (k_dflt (refine' useRows (by k_asm) (by k_asm) (by k_asm) (by k_asm) (by k_asm) (by exact rfl) (by ktr_room) (by ktr_units) ?_)); intro l' items' h' tk' hS' hlt' F' N'; (try dsimp only); (try k_sweep); (try k_fold))
  k_with "call ref" => (k_here; (with_reducible show wpAny _ _ (call (Value.ref 96) _) _ _ _); refine wpAny_call ?_; (refine' code_def ?kj1 ?kj2 ?kj3 ?kj4 ?kj5 ?kjA ?kjF ?kjK ?kj6 ?kj7 ?kj8 ?kj9 ?kjB ?_ ?cj2 ?cj3 ?cj4 ?cj5; (case kjA => exact rfl); (case kjF => exact rfl); (case kjK => exact rfl); (case kj1 => k_asm); (case kj2 => k_asm); (case kj3 => k_asm); (case kj4 => k_asm); (case kj5 => k_asm); (case kj6 => k_is); (case kj7 => k_is); (case kj8 => ktr_room); (case kj9 => exact BindsTo.of_eq rfl); (case cj5 => decide); (case kjB => exact locs rfl); (case cj2 => exact rfl); (case cj3 => exact rfl); (case cj4 => exact rfl); k_whole; intro g' L' h' FG' F' N' B' X' T'; (try dsimp only); (try k_lift B'); (try k_fold)))
  k_with "call ref" => (k_here; (refine' useCt0 (is_space_c _ _ _) (by k_asm) (by k_asm) (by k_asm) (by k_asm) (by k_asm) (by exact rfl) (by ktr_room) (by ktr_units) (by (first | assumption | exact item_low (by omega) (by omega) (by assumption))) ?_); intro x' t' h' tk' g' F' N'; subst g'; (try dsimp only); (try k_sweep); (try k_fold))
  k_with "call ref" => (k_here; (refine' useCt0 (skip_spaces_c _ _ _ _) (by k_asm) (by k_asm) (by k_asm) (by k_asm) (by k_asm) (by exact rfl) (by ktr_room) (by ktr_units) (by exact ⟨by assumption, by assumption⟩) ?_); intro x' t' h' tk' g' F' N'; subst g'; (try dsimp only); (try k_sweep); (try k_fold))
  k_with "call ref" => (k_here; (try rw [slice_all]); (refine' useCt0 (lower_text_c _ _ _) (by k_asm) (by k_asm) (by k_asm) (by k_asm) (by k_asm) (by exact rfl) (by ktr_room) (by ktr_units) (by (first | assumption | exact ⟨by omega, by assumption⟩)) ?_); intro x' t' h' tk' g' F' N'; subst g'; (try dsimp only); (try k_sweep); (try k_fold))
  trivial

theorem from_len {r y p : Str} {l : List (Str × Tok)} (e : Txt.split r y = p :: l.map (·.1)) (h : (Txt.split r y).length ≤ 40) : (strValues l).length + 1 ≤ sizeLine := by
  rw [e, List.length_cons, List.length_map] at h
  rw [sizeLine_eq, strValues, List.length_map]
  omega
theorem kw10 : True := by
  k_with "exec For Name Call cons nil" => (k_here; (rename Fr _ _ _ _ => lF'); (with_unfolding_all refine' For_invVF lF' (by exact rfl) (by exact rfl) ?_; k_whole))
  k_with "call builtin:str.split" => (k_here; (with_reducible show wpAny _ _ (call (Value.builtin "str.split") _) _ _ _); (refine my_split (by k_asm) (by k_asm) (by decide) ?_ (by rw [sizeLine_eq]; omega)); intro D' p' t' l' h' k' e' F' N' l1; (try k_sweep))
  k_with "subscriptTail Name Constant ref int" => (k_here; refine my_item0 (by k_asm) (by k_mem) ?_)
  k_with "subscriptTail Name Slice ref ref" => (k_here; (with_reducible rename Fr _ _ _ _ => F'); (with_reducible rename News _ _ _ _ => N'); (refine my_from1 (s := ⟨_, _, _, _, _⟩) F' N' (by k_mem) ?_ (from_len (by assumption) (by assumption))); clear F' N'; intro D' h' F' N' l1; (try k_sweep))
  k_with "compareOp In str ref" => (k_here; refine in_list_strs (News.isList (by k_asm) (by k_mem)) (strsAre_of_values _) ?_)
  trivial
theorem enc_turn {w r p : Str} {l : List (Str × Tok)} (e : Txt.split r (Str.ofString " ") = p :: l.map (·.1)) (h : ((l.map (·.1)).any fun y => y == w) = true) : encRow w r = some p := by
  unfold encRow; rw [e]; simp only [h, if_true]
theorem enc_pass {w r p : Str} {l : List (Str × Tok)} (e : Txt.split r (Str.ofString " ") = p :: l.map (·.1)) (h : ((l.map (·.1)).any fun y => y == w) = false) : encRow w r = none := by
  unfold encRow; rw [e]; simp only [h]; rfl
theorem encoding_of_c (w : World) (x : Str) (t : Tok) : Ct w 10 63 (x.length ≤ 1000 ∧ ∀ k ∈ KStt.codes x, 32 < k ∧ k < 256) [.str x t] (fun y => y = encF (lowText x)) optV := by
  walk_at "BEGIN"; intro mean mg mb news dp un gd cn cs a ccd cl outer A₀ base h₀ L m s Q E B F X N T hk hd hu hp hret
  obtain ⟨hl, hlow⟩ := hp
  have h256 : ∀ k ∈ KStt.codes x, 0 ≤ k ∧ k < 256 := fun k hk => ⟨by have := hlow k hk; omega, (hlow k hk).2⟩
  walk_at "ENTER"
  k_with "exec While BoolOp cons nil" => refine whl_start 1 ?_
  k_with "pyIter ref" => fail "stop"
  k_steps
  all_goals (
    rename Fr _ _ _ _ => F0
    rename News _ _ _ _ => N0
    rename ∀ p, p ∈ news → _ < _ => hlt
    rename StrsAre _ _ => hSR
    with_unfolding_all refine' for_tuple (fun j => ∀ r, rowsT[j]? = some r → encRow (lowText x) r = none) [Str.ofString "words"] rfl F0 N0 (fun p hp => Nat.ne_of_lt (hlt p hp)) (fun i v u h tk own hv hoff hG F1 N1 => ?_) (fun u h tk hG F1 N1 => ?_)
    · obtain ⟨r, tr, hr, rfl, hrl⟩ := rows_get hv hSR
      clear hv F0 N0 hlt
      have hsl := split_len hr
      k_steps
      · exact retCt hret (some _) (by assumption) (by assumption) (by intro p hp; simp only [List.mem_cons, List.mem_append, hp, true_or, or_true]) (find_at hG hr (enc_turn (by assumption) (by assumption))).symm
      · refine InvEndN.intro (by assumption) (by assumption) (nx := news) ⟨rfl, ?_, ?_⟩ rfl (by intro p hp; simp only [List.mem_cons, List.mem_append, hp, true_or, or_true]) (by intro p hp; simp only [List.mem_cons, List.mem_append, hp, true_or, or_true])
        · intro z h1 h2
          have h3 : z ≠ Str.ofString "words" := by simpa using h2
          simp only [if_neg h1, if_neg h3, h2, Bool.false_eq_true, if_false]
        · intro j hj r' hr'
          rcases Nat.lt_or_ge j i with q | q
          · exact hG j q r' hr'
          · have e : j = i := by omega
            rw [e, hr] at hr'
            rw [← Option.some.inj hr']
            exact enc_pass (by assumption) (by assumption)
    · have hn : rowsT.length ≤ _ := Nat.le_of_eq (hSR.length.symm.trans Array.length_toList)
      k_steps
      exact retCt hret none (t := 0) (by assumption) (by assumption) (fun _ hp => hp) (find_none hn hG).symm)

-- text BytesR
section
variable {prog : Program} {w : World} {A : Around} {E : Value → Shared → Prop} {s : Shared} {value slice : Expr} {b c : Array UInt8} {t u : Tok} {h₀ : Heap} {L : Addr} {m : Str → Option Value} {news : List (Addr × Obj)} {Q : Value → Shared → Prop} {ks ls : List Int} {i j : Int}
theorem ints_inj {b c : Array UInt8} (h : KBw.bInts b = KBw.bInts c) : b.toList = c.toList := by
  unfold KBw.bInts at h
  exact List.map_inj_right (f := fun c : UInt8 => (c.toNat : Int)) (fun x y e => UInt8.toNat_inj.mp (Int.ofNat_inj.mp e)) |>.mp h
theorem beq_ints (hb : KBw.bInts b = ks) (hc : KBw.bInts c = ls) : (b.toList == c.toList) = decide (ks = ls) := by
  by_cases h : ks = ls
  · rw [decide_eq_true h]
    have := ints_inj (b := b) (c := c) (by rw [hb, hc, h])
    rw [this]; exact beq_self_eq_true _
  · rw [decide_eq_false h]
    refine beq_eq_false_iff_ne.mpr fun e => h ?_
    rw [← hb, ← hc]
    unfold KBw.bInts
    rw [e]
theorem my_ne (hb : KBw.bInts b = ks) (hc : KBw.bInts c = ls) (h : Q (.bool (decide (ks ≠ ls))) s) : wpAny (model prog w) A (compareOp .NotEq (.bytes b t) (.bytes c u)) Q E s := by
  refine ne_bytes ?_
  have e : (b.toList != c.toList) = decide (ks ≠ ls) := by
    unfold bne
    rw [beq_ints hb hc]
    by_cases q : ks = ls <;> simp [q]
  rw [e]; exact h
theorem clip_nat' {n : Nat} {i : Int} (h : 0 ≤ i) : clipAt n i = min i.toNat n := by
  have e : i = ((i.toNat : Nat) : Int) := by omega
  rw [e]
  exact clipAt_nat n i.toNat
theorem cut_ij (ks : List Int) (a c : Nat) : (ks.drop (min a ks.length)).take (min c ks.length - min a ks.length) = (ks.drop a).take (c - a) := by
  rcases Nat.le_total ks.length a with h | h
  · rw [Nat.min_eq_right h, List.drop_of_length_le (Nat.le_refl _), List.drop_of_length_le h]; simp
  · rw [Nat.min_eq_left h]
    rcases Nat.le_total ks.length c with h2 | h2
    · rw [Nat.min_eq_right h2, List.take_of_length_le (by rw [List.length_drop]; omega), List.take_of_length_le (by rw [List.length_drop]; omega)]
    · rw [Nat.min_eq_left h2]
theorem my_bslice {ti tj : Tok} (hF : Fr h₀ L s.heap m) (hN : News h₀ L s.heap news) (hk : KBw.bInts b = ks) (h0 : 0 ≤ i) (h1 : 0 ≤ j) (hz : ks.length ≤ 16777216)
    (h : ∀ h' t' k (b' : Array UInt8), Fr h₀ L h' m → News h₀ L h' news → KBw.bInts b' = (ks.drop i.toNat).take (j.toNat - i.toNat) → Q (.bytes b' t') { s with heap := h', toks := k })
    (hs : subscripted slice false (.bytes b t) (.ref s.heap.objs.size) = operate [.ref s.heap.objs.size, .bytes b t] (getItem (.bytes b t) (.ref s.heap.objs.size)) := by with_unfolding_all rfl)
    (ht : ∀ r, letTemporaryGo value (.bytes b t) r = pure () := by intro _; with_unfolding_all rfl) :
    wpAny (model prog w) A (subscriptTail value slice (.bytes b t) (.ref s.heap.objs.size)) Q E { s with heap := s.heap.push { cls := .type "slice", data := .fields #[.int i ti, .int j tj, .none] } } := by
  refine KBc.slice_K hF hN hk (.int i ti) (.int j tj) hz (fun h' t' k F' N' e => h h' t' k _ F' N' ?_) hs ht
  rw [e]
  simp only [Option.elim, clip_nat' h0, clip_nat' h1]
  exact cut_ij ks _ _
/-- what == says of an item and x -/
noncomputable def EqIs (prog : Program) (w : World) (y x : Value) (r : Bool) : Prop := ∀ (A : Around) (Q : Bool → Shared → Prop) (E : Value → Shared → Prop) (s : Shared), Q r s → wpAny (model prog w) A (eqBool y x) Q E s
theorem tuple_contains_by {ta : Addr} {items : Array Value} {x : Value} {f : Value → Bool} {P : Fin → Shared → Prop} (ht : IsTup s.heap ta items) (hi : ∀ y ∈ items.toList, EqIs prog w y x (f y))
    (h : P (.done (.ret (.bool (items.toList.any f)))) s) : wpAny (model prog w) A (Builtin.«tuple.__contains__» ⟨[.ref ta, x], []⟩) P E s := by
  show wpAny _ _ (Builtin.Tuple.tupleItemsOf (.ref ta) >>= _) _ _ s
  refine wpAny_bind (tupleItemsOf_ ht ?_)
  refine wpAny_bind (forIn_array_ _ (fun rest b s' => b.1 = none ∧ s' = s ∧ (∀ y ∈ rest, EqIs prog w y x (f y)) ∧ P (.done (.ret (.bool (rest.any f)))) s) _ ?_ ?_ items _ ⟨rfl, rfl, hi, h⟩)
  · rintro y rest b s' ⟨hb, rfl, hm, hP⟩
    refine wpAny_bind (hm y List.mem_cons_self _ _ _ _ ?_)
    rw [List.any_cons] at hP
    cases hnx : f y with
    | true =>
      rw [hnx] at hP
      exact wpAny_bind (wpAny_pure (wpAny_pure (wpAny_pure (by simpa using hP))))
    | false =>
      rw [hnx] at hP
      exact wpAny_pure ⟨rfl, rfl, fun z hz => hm z (List.mem_cons_of_mem _ hz), by simpa using hP⟩
  · rintro ⟨b1, b2⟩ s' ⟨hb, rfl, hm, hP⟩
    simp only at hb
    subst hb
    exact wpAny_pure (by simpa using hP)
theorem contains_tuple_by {ta : Addr} {items : Array Value} {x : Value} {f : Value → Bool} {Q : Bool → Shared → Prop} (ht : IsTup s.heap ta items) (hi : ∀ y ∈ items.toList, EqIs prog w y x (f y))
    (h : Q (items.toList.any f) s) : wpAny (model prog w) A (contains (.ref ta) x) Q E s := by
  unfold contains
  refine wpAny_holding ?_
  refine wpAny_bind (wpAny_specialOf ht.typeIs slot_tuple_contains.lookup ?_)
  rw [if_neg (by decide)]
  exact wpAny_bind (wpAny_callSpecialUnlessNone?_slot (name := Str.ofString "__contains__") ht.typeIs slot_tuple_contains
    (wpAny_call_entry slot_tuple_contains ht.typeIs entry_tuple_contains (tuple_contains_by ht hi ⟨_, rfl, wpAny_truthy_bool h⟩) (args_tuple_contains _ _)))
theorem in_by {ta : Addr} {items : Array Value} {x : Value} {f : Value → Bool} (ht : IsTup s.heap ta items) (hi : ∀ y ∈ items.toList, EqIs prog w y x (f y)) {r : Bool} (hr : items.toList.any f = r)
    (h : Q (.bool r) s) : wpAny (model prog w) A (compareOp .In x (.ref ta)) Q E s := by
  subst hr
  show wpAny _ _ (do return .bool (← contains (.ref ta) x)) Q E s
  exact wpAny_bind (contains_tuple_by ht hi (wpAny_pure h))
theorem notin_by {ta : Addr} {items : Array Value} {x : Value} {f : Value → Bool} (ht : IsTup s.heap ta items) (hi : ∀ y ∈ items.toList, EqIs prog w y x (f y)) {r : Bool} (hr : items.toList.any f = r)
    (h : Q (.bool (!r)) s) : wpAny (model prog w) A (compareOp .NotIn x (.ref ta)) Q E s := by
  subst hr
  show wpAny _ _ (do return .bool (!(← contains (.ref ta) x))) Q E s
  exact wpAny_bind (contains_tuple_by ht hi (wpAny_pure h))
theorem eqIs_bytes : EqIs prog w (.bytes b t) (.bytes c u) (b.toList == c.toList) := by
  intro A Q E s h
  unfold eqBool
  show wpAny _ _ (if (Value.bytes b t == Value.bytes c u) = true then _ else _) Q E s
  by_cases hab : (Value.bytes b t == Value.bytes c u) = true
  · rw [if_pos hab]
    have e : b = c := by have := eq_of_beq hab; injection this
    subst e
    exact wpAny_bind (wpAny_rule (wpAny_pure (by simpa using h)))
  · rw [if_neg hab]
    exact wpAny_bind (eq_bytes (wpAny_truthy_bool h))
theorem eqIs_none {y : Str} : EqIs prog w (.str y t) .none false := by
  intro A Q E s h
  unfold eqBool
  refine wpAny_holding ?_
  rw [if_neg (by intro e; cases eq_of_beq e)]
  show wpAny _ _ (richCompare .Eq (.str y t) .none >>= fun r => truthOfDropped r) Q E s
  exact wpAny_bind (EqNone.eq_str_none (wpAny_truthy_bool h))
end
section
variable {prog : Program} {w : World} {A : Around} {E : Value → Shared → Prop} {s : Shared} {env : Env} {h₀ : Heap} {x : Str} {body : List Stmt} {Q : Flow → Shared → Prop} {m₀ : Str → Option Value} {news : List (Addr × Obj)} {b : Array UInt8} {tb : Tok} {ks : List Int}
/-- a walk over bytes that stores nothing and goes by where p holds -/
theorem for_bytes_all (p : Int → Prop) (hk : KBw.bInts b = ks) (hh : A.handled = none) (F : Fr h₀ env.locals s.heap m₀) (N : News h₀ env.locals s.heap news)
    (turn : ∀ (i : Nat) k t h tk own, ks[i]? = some k → OwnOff own (news.map (·.1)) → Fr h₀ env.locals h (fun y => if y = x then some (.int k t) else m₀ y) → News h₀ env.locals h (news ++ own) →
      wpAny (model prog w) A (execs body env) (InvPostN h₀ env.locals (fun m nx => nx = news ∧ (∀ z, z ≠ x → m z = m₀ z) ∧ p k) own (news.map (·.1)) { s with heap := h, toks := tk } Q) E { s with heap := h, toks := tk })
    (done : ∀ (u : Str → Option Value) h tk, (∀ k ∈ ks, p k) → Fr h₀ env.locals h (fun y => if y = x then u y else m₀ y) → News h₀ env.locals h news → Q .next { s with heap := h, toks := tk }) :
    wpAny (model prog w) A (pyIter (.bytes b tb)) (fun it s₂ => LoopAtV prog w A h₀ env x body Q E it s₂) E s := by
  refine KBmo.iter_bytesN (fun i m nx => nx = news ∧ (∀ z, z ≠ x → m z = m₀ z) ∧ ∀ k ∈ ks.take i, p k) hk hh F N ⟨rfl, fun _ _ => rfl, by simp⟩ ?_ ?_
  · rintro i k t m₁ nx h tk own he hlo hhi hoff ⟨rfl, hm, hP⟩ F₁ N₁
    have e : (fun y => if y = x then some (Value.int k t) else m₁ y) = (fun y => if y = x then some (Value.int k t) else m₀ y) := by
      funext y
      by_cases h1 : y = x
      · simp only [if_pos h1]
      · simp only [if_neg h1]; exact hm y h1
    rw [e] at F₁
    refine wpAny_mono (turn i k t h tk own he hoff F₁ N₁) (fun f s₂ q => ?_) fun _ _ e => e
    cases f with
    | ret v => exact q
    | brk => exact q
    | next =>
      obtain ⟨h', tk', m', news', nx, e, F', N', hn, ho, ha, hq1, hq2, hq3⟩ := q
      refine ⟨h', tk', m', news', nx, e, F', N', hn, ho, ha, hq1, hq2, ?_⟩
      rw [List.take_add_one, he]
      intro k' hk'
      rcases List.mem_append.mp hk' with q | q
      · exact hP k' q
      · have : k' = k := by simpa using q
        rw [this]; exact hq3
    | cont =>
      obtain ⟨h', tk', m', news', nx, e, F', N', hn, ho, ha, hq1, hq2, hq3⟩ := q
      refine ⟨h', tk', m', news', nx, e, F', N', hn, ho, ha, hq1, hq2, ?_⟩
      rw [List.take_add_one, he]
      intro k' hk'
      rcases List.mem_append.mp hk' with q | q
      · exact hP k' q
      · have : k' = k := by simpa using q
        rw [this]; exact hq3
  · rintro m₁ nx h tk ⟨rfl, hm, hP⟩ F₁ N₁
    rw [List.take_length] at hP
    refine done m₁ h tk hP ?_ N₁
    have e : m₁ = (fun y => if y = x then m₁ y else m₀ y) := by
      funext y
      by_cases h1 : y = x
      · simp only [if_pos h1]
      · simp only [if_neg h1]; exact hm y h1
    rw [← e]
    exact F₁
end

-- text Plain2
noncomputable def patX : List Int := [60, 63, 120, 109, 108]
noncomputable def patE : List Int := [101, 110, 99, 111, 100, 105, 110, 103]
/-- what stands behind the first pattern -/
noncomputable def dropTo : List Int → Option (List Int)
  | [] => none
  | a :: l => if (a :: l).take 8 = patE then some ((a :: l).drop 8) else dropTo l
theorem dropTo_step {l : List Int} {a : Int} (h0 : 0 ≤ a) (h1 : a < (l.length : Int)) (h : (l.drop a.toNat).take 8 ≠ patE) : dropTo (l.drop (a + 1).toNat) = dropTo (l.drop a.toNat) := by
  have e : a.toNat < l.length := by omega
  have e2 : (a + 1).toNat = a.toNat + 1 := by omega
  rw [List.drop_eq_getElem_cons e] at h ⊢
  rw [dropTo, if_neg h, e2]
theorem dropTo_out {l : List Int} {a : Int} (h1 : (l.length : Int) ≤ a) : dropTo (l.drop a.toNat) = none := by
  rw [List.drop_eq_nil_of_le (by omega)]; rfl
theorem dropTo_hit {l : List Int} {a : Int} (h0 : 0 ≤ a) (h1 : a < (l.length : Int)) (h : (l.drop a.toNat).take 8 = patE) : dropTo (l.drop a.toNat) = some (l.drop (a + 8).toNat) := by
  have e : a.toNat < l.length := by omega
  have e2 : (a + 8).toNat = a.toNat + 8 := by omega
  have e3 : (l.drop a.toNat).drop 8 = l.drop (a.toNat + 8) := by rw [List.drop_drop]
  rw [e2, ← e3]
  rw [List.drop_eq_getElem_cons e] at h ⊢
  rw [dropTo, if_pos h]
noncomputable def notLow (k : Int) : Bool := decide (32 < k)
noncomputable def afterQ : List Int → Option (List Int)
  | [] => none
  | q :: r => if q = 34 ∨ q = 39 then (if q ∈ r then (if (r.takeWhile (isNot q)).all notLow = true then some (r.takeWhile (isNot q)) else none) else none) else none
noncomputable def afterEq : List Int → Option (List Int)
  | [] => none
  | e :: r => if e = 61 then afterQ (r.dropWhile isLow) else none
/-- the name's signs as the text declares them -/
noncomputable def cutName (l : List Int) : Option (List Int) :=
  if l.take 5 = patX ∧ 62 ∈ l then (dropTo (l.takeWhile (isNot 62))).bind fun r => afterEq (r.dropWhile isLow) else none
theorem drop_runEnd (p : Int → Bool) (ks : List Int) {a : Int} (h0 : 0 ≤ a) : ks.drop (runEnd p ks a).toNat = (ks.drop a.toNat).dropWhile p := by
  have e : (runEnd p ks a).toNat = a.toNat + ((ks.drop a.toNat).takeWhile p).length := by unfold runEnd; omega
  rw [e, ← List.drop_drop]
  generalize ks.drop a.toNat = l
  induction l with
  | nil => rfl
  | cons x l ih =>
    rw [List.takeWhile_cons, List.dropWhile_cons]
    cases h : p x with
    | true => simp only [if_true, List.length_cons, List.drop_succ_cons]; exact ih
    | false => simp only [Bool.false_eq_true, if_false, List.length_nil, List.drop_zero]
theorem take_runEnd (p : Int → Bool) (ks : List Int) {a : Int} (h0 : 0 ≤ a) : (ks.drop a.toNat).take ((runEnd p ks a).toNat - a.toNat) = (ks.drop a.toNat).takeWhile p := by
  have e : (runEnd p ks a).toNat - a.toNat = ((ks.drop a.toNat).takeWhile p).length := by unfold runEnd; omega
  rw [e]
  generalize ks.drop a.toNat = l
  induction l with
  | nil => rfl
  | cons x l ih =>
    rw [List.takeWhile_cons]
    cases h : p x with
    | true => simp only [if_true, List.length_cons, List.take_succ_cons, ih]
    | false => simp only [Bool.false_eq_true, if_false, List.length_nil, List.take_zero]
noncomputable def headOf (ks : List Int) : List Int := ks.take (runEnd (isNot 62) ks 5).toNat
theorem head_is (ks : List Int) : (ks.drop (0 : Int).toNat).take ((runEnd (isNot 62) ks 5).toNat - (0 : Int).toNat) = headOf ks := by simp [headOf]
theorem headOf_len (ks : List Int) : (headOf ks).length ≤ ks.length := by unfold headOf; rw [List.length_take]; omega
theorem five_is (ks : List Int) : (ks.drop (0 : Int).toNat).take ((5 : Int).toNat - (0 : Int).toNat) = ks.take 5 := by simp
theorem split5 {ks : List Int} (h : ks.take 5 = patX) : ks = patX ++ ks.drop 5 := by
  have := List.take_append_drop 5 ks
  rw [h] at this
  exact this.symm
theorem headOf_eq {ks : List Int} (h : ks.take 5 = patX) : headOf ks = patX ++ (ks.drop 5).takeWhile (isNot 62) := by
  have e : (runEnd (isNot 62) ks 5).toNat = 5 + ((ks.drop 5).takeWhile (isNot 62)).length := by
    unfold runEnd
    simp only [show (5 : Int).toNat = 5 from rfl]
    omega
  have e2 := take_runEnd (isNot 62) ks (a := 5) (by omega)
  simp only [show (5 : Int).toNat = 5 from rfl] at e2
  unfold headOf
  rw [e] at e2 ⊢
  generalize hn : ((ks.drop 5).takeWhile (isNot 62)).length = n at e2 ⊢
  rw [show 5 + n - 5 = n by omega] at e2
  rw [List.take_add, h, e2]
theorem tw_eq {ks : List Int} (h : ks.take 5 = patX) : ks.takeWhile (isNot 62) = headOf ks := by
  rw [headOf_eq h]
  generalize hr : ks.drop 5 = r
  have h3 := split5 h
  rw [hr] at h3
  rw [h3]
  rfl
theorem dropTo_pat (m : List Int) : dropTo (patX ++ m) = dropTo m := by
  show dropTo (60 :: 63 :: 120 :: 109 :: 108 :: m) = _
  simp only [dropTo, List.take_succ_cons, patE, List.cons.injEq, show ¬ ((60 : Int) = 101) by decide, show ¬ ((63 : Int) = 101) by decide, show ¬ ((120 : Int) = 101) by decide, show ¬ ((109 : Int) = 101) by decide, show ¬ ((108 : Int) = 101) by decide, false_and, if_false]
theorem tw_all {p : Int → Bool} : ∀ {l : List Int}, (∀ x ∈ l, p x = true) → l.takeWhile p = l
  | [], _ => rfl
  | a :: l, h => by rw [List.takeWhile_cons, if_pos (h a List.mem_cons_self), tw_all fun x hx => h x (List.mem_cons_of_mem _ hx)]
theorem tw_of {p : Int → Bool} : ∀ {l : List Int}, l.takeWhile p = l → ∀ x ∈ l, p x = true
  | [], _, x, hx => nomatch hx
  | a :: l, h, x, hx => by
    rw [List.takeWhile_cons] at h
    cases ha : p a with
    | false => rw [ha] at h; simp at h
    | true =>
      rw [ha] at h
      simp only [if_true, List.cons.injEq, true_and] at h
      rcases List.mem_cons.mp hx with rfl | hx
      · exact ha
      · exact tw_of h x hx
theorem mem_of_run {ks : List Int} {v : Int} {a : Int} (h0 : 0 ≤ a) (h : ¬ (ks.length : Int) ≤ runEnd (isNot v) ks a) : v ∈ ks.drop a.toNat := by
  refine Classical.byContradiction fun hn => h ?_
  have e : (ks.drop a.toNat).takeWhile (isNot v) = ks.drop a.toNat := by
    refine tw_all fun x hx => ?_
    simp only [isNot, decide_eq_true_eq]
    intro e; exact hn (e ▸ hx)
  unfold runEnd
  rw [e, List.length_drop]
  omega
theorem run_of_mem {ks : List Int} {v : Int} {a : Int} (h0 : 0 ≤ a) (h1 : a ≤ ks.length) (h : (ks.length : Int) ≤ runEnd (isNot v) ks a) : v ∉ ks.drop a.toNat := by
  intro hm
  have e := List.takeWhile_append_dropWhile (p := isNot v) (l := ks.drop a.toNat)
  have hl : ((ks.drop a.toNat).takeWhile (isNot v)).length = (ks.drop a.toNat).length := by
    have hle := (List.takeWhile_sublist (isNot v) (l := ks.drop a.toNat)).length_le
    unfold runEnd at h
    rw [List.length_drop] at hle ⊢
    omega
  have e2 : (ks.drop a.toNat).takeWhile (isNot v) = ks.drop a.toNat := (List.takeWhile_sublist (isNot v)).eq_of_length hl
  have := tw_of e2 v hm
  simp [isNot] at this
theorem cut_no5 {ks : List Int} (h : ks.take 5 ≠ patX) : cutName ks = none := by
  unfold cutName
  rw [if_neg (fun q => h q.1)]
theorem cut_no62 {ks : List Int} (h5 : ¬ ks.take 5 ≠ patX) (h : (ks.length : Int) ≤ runEnd (isNot 62) ks 5) : cutName ks = none := by
  unfold cutName
  have h5' := Classical.not_not.mp h5
  have hlen : 5 ≤ ks.length := by
    have := congrArg List.length h5'
    rw [List.length_take] at this
    have e : patX.length = 5 := rfl
    omega
  have h2 := run_of_mem (v := 62) (a := 5) (by omega) (by omega) h
  rw [if_neg]
  rintro ⟨_, hm⟩
  rw [split5 h5'] at hm
  rcases List.mem_append.mp hm with q | q
  · simp [patX] at q
  · exact h2 q
theorem cut_head {ks : List Int} (h5 : ¬ ks.take 5 ≠ patX) (h : ¬ (ks.length : Int) ≤ runEnd (isNot 62) ks 5) : cutName ks = (dropTo ((headOf ks).drop 5)).bind fun r => afterEq (r.dropWhile isLow) := by
  have h5' := Classical.not_not.mp h5
  have hm : 62 ∈ ks := List.mem_of_mem_drop (mem_of_run (by omega) h)
  unfold cutName
  rw [if_pos ⟨h5', hm⟩, tw_eq h5', headOf_eq h5', dropTo_pat]
  rfl
theorem one_at {H : List Int} {x c : Int} (h0 : 0 ≤ x) (h : (H.drop x.toNat).take ((x + 1).toNat - x.toNat) = [c]) : x < (H.length : Int) ∧ H.drop x.toNat = c :: H.drop (x + 1).toNat ∧ H.getD x.toNat 0 = c := by
  have e : (x + 1).toNat - x.toNat = 1 := by omega
  have e2 : (x + 1).toNat = x.toNat + 1 := by omega
  rw [e] at h
  have hlt : x.toNat < H.length := by
    refine Classical.byContradiction fun q => ?_
    rw [List.drop_eq_nil_of_le (by omega)] at h
    cases h
  rw [List.drop_eq_getElem_cons hlt] at h ⊢
  rw [List.take_succ_cons, List.take_zero] at h
  have h4 : H[x.toNat] = c := by injection h
  rw [e2, h4]
  refine ⟨by omega, rfl, ?_⟩
  rw [← h4]; simp [List.getD, hlt]
theorem none_at {H : List Int} {x : Int} (h0 : 0 ≤ x) (p : Int → Bool) (h : ∀ c, p c = true → (H.drop x.toNat).take ((x + 1).toNat - x.toNat) ≠ [c]) : ∀ c r, H.drop x.toNat = c :: r → p c = false := by
  intro c r hc
  cases hp : p c with
  | false => rfl
  | true =>
    refine absurd ?_ (h c hp)
    have e : (x + 1).toNat - x.toNat = 1 := by omega
    rw [e, hc]; rfl
/-- the facts behind the loop that found the word -/
theorem cut_word {ks : List Int} {a x : Int} (h5 : ¬ ks.take 5 ≠ patX) (h : ¬ (ks.length : Int) ≤ runEnd (isNot 62) ks 5) (h0 : 5 ≤ a) (h1 : a < ((headOf ks).length : Int))
    (hr : dropTo ((headOf ks).drop a.toNat) = dropTo ((headOf ks).drop 5)) (hp : ¬ ((headOf ks).drop a.toNat).take ((a + 8).toNat - a.toNat) ≠ patE) (hx : x = runEnd isLow (headOf ks) (a + 8)) : cutName ks = afterEq ((headOf ks).drop x.toNat) := by
  have e8 : (a + 8).toNat - a.toNat = 8 := by omega
  rw [e8] at hp
  rw [cut_head h5 h, ← hr, dropTo_hit (by omega) h1 (Classical.not_not.mp hp), hx, drop_runEnd isLow _ (by omega)]
  rfl
theorem cut_noeq {ks H : List Int} {x : Int} (h0 : 0 ≤ x) (hc : cutName ks = afterEq (H.drop x.toNat)) (h : (H.drop x.toNat).take ((x + 1).toNat - x.toNat) ≠ [61]) : cutName ks = none := by
  rw [hc]
  cases hd : H.drop x.toNat with
  | nil => rfl
  | cons c r =>
    have := none_at h0 (fun c => decide (c = 61)) (fun c hc => by have : c = 61 := by simpa using hc
                                                                  rw [this]; exact h) c r hd
    rw [afterEq, if_neg (by simpa using this)]
theorem cut_eq {ks H : List Int} {x y : Int} (h0 : 0 ≤ x) (hc : cutName ks = afterEq (H.drop x.toNat)) (h : ¬ (H.drop x.toNat).take ((x + 1).toNat - x.toNat) ≠ [61]) (hy : y = runEnd isLow H (x + 1)) : cutName ks = afterQ (H.drop y.toNat) := by
  obtain ⟨h1, h2, _⟩ := one_at h0 (Classical.not_not.mp h)
  rw [hc, h2, afterEq, if_pos rfl, hy, drop_runEnd isLow H (by omega)]
theorem cut_noq {ks H : List Int} {y : Int} (h0 : 0 ≤ y) (hc : cutName ks = afterQ (H.drop y.toNat)) (h : (decide ([34] = (H.drop y.toNat).take ((y + 1).toNat - y.toNat)) || decide ([39] = (H.drop y.toNat).take ((y + 1).toNat - y.toNat))) = false) : cutName ks = none := by
  rw [hc]
  simp only [Bool.or_eq_false_iff, decide_eq_false_iff_not] at h
  cases hd : H.drop y.toNat with
  | nil => rfl
  | cons c r =>
    have := none_at h0 (fun c => decide (c = 34 ∨ c = 39)) (fun c hc => by
      have : c = 34 ∨ c = 39 := by simpa using hc
      rcases this with rfl | rfl
      · exact Ne.symm h.1
      · exact Ne.symm h.2) c r hd
    rw [afterQ, if_neg (by simpa using this)]
theorem quote_at {H : List Int} {y : Int} (h0 : 0 ≤ y) (h : (decide ([34] = (H.drop y.toNat).take ((y + 1).toNat - y.toNat)) || decide ([39] = (H.drop y.toNat).take ((y + 1).toNat - y.toNat))) = true) :
    y < (H.length : Int) ∧ H.drop y.toNat = H.getD y.toNat 0 :: H.drop (y + 1).toNat ∧ (H.getD y.toNat 0 = 34 ∨ H.getD y.toNat 0 = 39) := by
  simp only [Bool.or_eq_true, decide_eq_true_eq] at h
  rcases h with h | h
  · obtain ⟨h1, h2, h3⟩ := one_at h0 h.symm
    rw [h3]; exact ⟨h1, h2, .inl rfl⟩
  · obtain ⟨h1, h2, h3⟩ := one_at h0 h.symm
    rw [h3]; exact ⟨h1, h2, .inr rfl⟩
/-- the word between the quotes -/
noncomputable def wordOf (H : List Int) (y v : Int) : List Int := (H.drop (y + 1).toNat).takeWhile (isNot v)
theorem cut_q {ks H : List Int} {y v : Int} (hc : cutName ks = afterQ (H.drop y.toNat)) (h2 : H.drop y.toNat = v :: H.drop (y + 1).toNat) (h3 : v = 34 ∨ v = 39) :
    cutName ks = if v ∈ H.drop (y + 1).toNat then (if (wordOf H y v).all notLow = true then some (wordOf H y v) else none) else none := by
  rw [hc, h2, afterQ, if_pos h3]; rfl
theorem word_is {H : List Int} {y v : Int} (h0 : 0 ≤ y) : (H.drop (y + 1).toNat).take ((runEnd (isNot v) H (y + 1)).toNat - (y + 1).toNat) = wordOf H y v := take_runEnd (isNot v) H (by omega)
theorem cut_noend {ks H : List Int} {y v : Int} (h0 : 0 ≤ y) (h1 : y < (H.length : Int)) (hc : cutName ks = afterQ (H.drop y.toNat)) (h2 : H.drop y.toNat = v :: H.drop (y + 1).toNat) (h3 : v = 34 ∨ v = 39)
    (h : (H.length : Int) ≤ runEnd (isNot v) H (y + 1)) : cutName ks = none := by
  rw [cut_q hc h2 h3, if_neg (run_of_mem (by omega) (by omega) h)]
theorem cut_low {ks H : List Int} {y v k : Int} {i : Nat} (h0 : 0 ≤ y) (hc : cutName ks = afterQ (H.drop y.toNat)) (h2 : H.drop y.toNat = v :: H.drop (y + 1).toNat) (h3 : v = 34 ∨ v = 39)
    (hi : (wordOf H y v)[i]? = some k) (hk : k ≤ 32) : cutName ks = none := by
  rw [cut_q hc h2 h3]
  have hall : ¬ (wordOf H y v).all notLow = true := by
    intro q
    have := List.all_eq_true.mp q k (List.mem_of_getElem? hi)
    simp only [notLow, decide_eq_true_eq] at this
    omega
  by_cases hm : v ∈ H.drop (y + 1).toNat
  · rw [if_pos hm, if_neg hall]
  · rw [if_neg hm]
theorem cut_good {ks H : List Int} {y v : Int} (h0 : 0 ≤ y) (hc : cutName ks = afterQ (H.drop y.toNat)) (h2 : H.drop y.toNat = v :: H.drop (y + 1).toNat) (h3 : v = 34 ∨ v = 39)
    (h : ¬ (H.length : Int) ≤ runEnd (isNot v) H (y + 1)) (hall : ∀ k ∈ wordOf H y v, 32 < k) : cutName ks = some (wordOf H y v) := by
  have ha : (wordOf H y v).all notLow = true := List.all_eq_true.mpr fun k hk => by simp only [notLow, decide_eq_true_eq]; exact hall k hk
  rw [cut_q hc h2 h3, if_pos (mem_of_run (by omega) h), if_pos ha]
theorem path2_false {H : List Int} {a x : Int} (h0 : 0 ≤ a) (h : ¬ a < (H.length : Int)) (hx : x = runEnd isLow H (a + 8)) (hp : ¬ (H.drop x.toNat).take ((x + 1).toNat - x.toNat) ≠ [61]) : False := by
  have e : runEnd isLow H (a + 8) = a + 8 := runEnd_out (by omega)
  rw [e] at hx
  have := (one_at (by omega) (Classical.not_not.mp hp)).1
  omega
theorem enc_turn_facts {H : List Int} {a : Int} (h0 : 5 ≤ a) (h1 : a < (H.length : Int)) (hl : H.length ≤ 900) (hr : dropTo (H.drop a.toNat) = dropTo (H.drop 5)) (hp : (H.drop a.toNat).take ((a + 8).toNat - a.toNat) ≠ patE) :
    5 ≤ a + 1 ∧ a + 1 ≤ 1000 ∧ dropTo (H.drop (a + 1).toNat) = dropTo (H.drop 5) := by
  have e8 : (a + 8).toNat - a.toNat = 8 := by omega
  rw [e8] at hp
  exact ⟨by omega, by omega, (dropTo_step (by omega) h1 hp).trans hr⟩
theorem cut_noword {ks : List Int} {a : Int} (h5 : ¬ ks.take 5 ≠ patX) (h : ¬ (ks.length : Int) ≤ runEnd (isNot 62) ks 5) (h1 : ¬ a < ((headOf ks).length : Int)) (hr : dropTo ((headOf ks).drop a.toNat) = dropTo ((headOf ks).drop 5)) : cutName ks = none := by
  rw [cut_head h5 h, ← hr, dropTo_out (by omega)]
  rfl

-- text C11
theorem lit_xml : KBw.bInts [60, 63, 120, 109, 108].toArray = patX := by decide
theorem lit_enc : KBw.bInts [101, 110, 99, 111, 100, 105, 110, 103].toArray = patE := by decide
theorem lit_eq : KBw.bInts [61].toArray = [61] := by decide
theorem kw11 : True := by
  k_with "compareOp NotEq bytes bytes" => (k_here; refine my_ne (by assumption) (by first | exact lit_xml | exact lit_enc | exact lit_eq) ?_)
  k_with "subscriptTail" => (k_here; (with_reducible show wpAny _ _ (subscriptTail _ (Expr.Slice (some _) (some _) none _) (Value.bytes _ _) (Value.ref _)) _ _ _); (with_reducible rename Fr _ _ _ _ => F'); (with_reducible rename News _ _ _ _ => N'); (refine my_bslice (s := ⟨_, _, _, _, _⟩) F' N' (by assumption) (by omega) (by omega) (by omega) ?_); clear F' N'; intro h' t' k' b' F' N' hb'; (try simp only [head_is, five_is] at hb'); (try rw [word_is (by omega)] at hb'))
  trivial
theorem notin_quotes {prog : Program} {w : World} {A : Around} {E : Value → Shared → Prop} {s : Shared} {b : Array UInt8} {t : Tok} {h₀ : Heap} {L : Addr} {news : List (Addr × Obj)} {Q : Value → Shared → Prop} {ks : List Int} {ta : Addr} {t1 t2 : Tok} {n : Nat}
    (hk : KBw.bInts b = ks) (N : News h₀ L s.heap news) (hm : (ta, ({ cls := .type "tuple", data := .seq #[.bytes [34].toArray t1, .bytes [39].toArray t2] n } : Obj)) ∈ news)
    (h : Q (.bool (!(decide ([34] = ks) || decide ([39] = ks)))) s) : wpAny (model prog w) A (compareOp .NotIn (.bytes b t) (.ref ta)) Q E s := by
  refine notin_by (f := fun y => match y with | .bytes c _ => c.toList == b.toList | _ => false) (News.isTup N hm) ?_ ?_ h
  · intro y hy
    rcases List.mem_cons.mp hy with rfl | hy
    · exact eqIs_bytes
    · rcases List.mem_cons.mp hy with rfl | hy
      · exact eqIs_bytes
      · cases hy
  · show ((([34].toArray : Array UInt8).toList == b.toList) || ((([39].toArray : Array UInt8).toList == b.toList) || false)) = _
    rw [Bool.or_false, beq_ints (b := [34].toArray) (ks := [34]) (by decide) hk, beq_ints (b := [39].toArray) (ks := [39]) (by decide) hk]
theorem kw12 : True := by
  k_with "compareOp NotIn bytes ref" => (k_here; refine notin_quotes (by assumption) (by k_asm) (by k_mem) ?_)
  trivial
theorem in_none2 {prog : Program} {w : World} {A : Around} {E : Value → Shared → Prop} {s : Shared} {h₀ : Heap} {L : Addr} {news : List (Addr × Obj)} {Q : Value → Shared → Prop} {ta : Addr} {x1 x2 : Str} {t1 t2 : Tok} {n : Nat}
    (N : News h₀ L s.heap news) (hm : (ta, ({ cls := .type "tuple", data := .seq #[.str x1 t1, .str x2 t2] n } : Obj)) ∈ news)
    (h : Q (.bool false) s) : wpAny (model prog w) A (compareOp .In .none (.ref ta)) Q E s := by
  refine in_by (f := fun _ => false) (News.isTup N hm) ?_ (by simp) h
  intro y hy
  rcases List.mem_cons.mp hy with rfl | hy
  · exact eqIs_none
  · rcases List.mem_cons.mp hy with rfl | hy
    · exact eqIs_none
    · cases hy
theorem kw13 : True := by
  k_with "compareOp In" => (k_here; (with_reducible show wpAny _ _ (compareOp CmpOp.In Value.none (Value.ref _)) _ _ _); refine in_none2 (by k_asm) (by k_mem) ?_)
  k_with "pyIter bytes" => (k_here; (rename Fr _ _ _ _ => F0); (rename News _ _ _ _ => N0); with_unfolding_all refine' for_bytes_all (fun k => 32 < k) (by kba_ints) (by rfl) F0 N0 (fun i' k' t' h' tk' own' hi' hoff' F' N' => ?_) (fun u' h' tk' hall' F' N' => ?_); (all_goals clear F0 N0); (all_goals try k_fold))
  trivial
theorem wordOf_sub {ks : List Int} {y v : Int} : (wordOf (headOf ks) y v).Sublist ks :=
  (List.takeWhile_sublist _).trans ((List.drop_sublist _ _).trans (List.take_sublist _ _))
theorem word_len {ks : List Int} {y v : Int} (h : ks.length ≤ 900) : (wordOf (headOf ks) y v).length ≤ 1000 := by
  have := (wordOf_sub (ks := ks) (y := y) (v := v)).length_le
  omega
theorem low_fine {ks : List Int} {y v : Int} (hl : ks.length ≤ 900) (h : ∀ k ∈ ks, 0 ≤ k ∧ k < 256) (hall : ∀ k ∈ wordOf (headOf ks) y v, 32 < k) :
    (lowText (KStt.txt (wordOf (headOf ks) y v))).length ≤ 1000 ∧ ∀ k ∈ KStt.codes (lowText (KStt.txt (wordOf (headOf ks) y v))), 32 < k ∧ k < 256 := by
  have h2 := word_len (y := y) (v := v) hl
  have h3 : ∀ k ∈ wordOf (headOf ks) y v, 0 ≤ k ∧ k < 256 := fun k hk => h k (wordOf_sub.subset hk)
  generalize wordOf (headOf ks) y v = ws at *
  have e : KStt.codes (lowText (KStt.txt ws)) = ws.map fun k => (lowN k.toNat : Int) := by
    show ((ws.map Int.toNat).map lowN).map (fun c : Nat => (c : Int)) = _
    rw [List.map_map, List.map_map]; rfl
  refine ⟨?_, ?_⟩
  · rw [← KStt.codes_length, e, List.length_map]; exact h2
  · rw [e]
    intro k hk
    obtain ⟨j, hj, rfl⟩ := List.mem_map.mp hk
    have a1 := hall j hj
    have a2 := h3 j hj
    unfold lowN
    split <;> omega
noncomputable def fix16 : Option Str → Option Str
  | none => none
  | some y => if ([Str.ofString "UTF-16BE", Str.ofString "UTF-16LE"].any fun x => x == y) = true then some (Str.ofString "UTF-8") else some y
noncomputable def encN (ws : List Int) : Option Str := fix16 (encF (lowText (lowText (KStt.txt ws))))
theorem kw14 : True := by
  k_with "subscriptTail" => (k_here; (with_reducible show wpAny _ _ (subscriptTail _ _ (Value.bytes _ _) (Value.int _ _)) _ _ _); (rename (decide _ || decide _) = true => hQ); (obtain ⟨q1, q2, q3⟩ := quote_at (by omega) hQ); (refine KBw.item_K (by assumption) (by omega) (by omega) q1 ?_); intro t' k' lo hi; (try k_fold))
  k_with "exec If" => (k_here; (rename (_ = runEnd isLow (headOf _) (_ + 8)) => gX); exfalso; exact path2_false (by omega) (by assumption) gX (by assumption))
  k_with "LEAF" => (first
  | exact cut_no5 (by assumption)
  | exact cut_no62 (by assumption) (by assumption)
  | exact cut_noword (by assumption) (by assumption) (by assumption) (by assumption)
  | ((rename (_ = runEnd isLow (headOf _) (_ + 8)) => gX); (have hc := cut_word (by assumption) (by assumption) (by assumption) (by assumption) (by assumption) (by assumption) gX); first
    | exact cut_noeq (by omega) hc (by assumption)
    | ((rename (_ = runEnd isLow (headOf _) (_ + 1)) => gY); (have hc2 := cut_eq (by omega) hc (by assumption) gY); first
      | exact cut_noq (by omega) hc2 (by assumption)
      | ((rename (decide _ || decide _) = true => hQ); (obtain ⟨q1, q2, q3⟩ := quote_at (by omega) hQ); first
        | exact cut_noend (by omega) q1 hc2 q2 q3 (by assumption)
        | exact cut_low (by omega) hc2 q2 q3 (by assumption) (by assumption)
        | exact cut_good (by omega) hc2 q2 q3 (by assumption) (by assumption)))))
  trivial
theorem final_no {ks : List Int} (h : cutName ks = none) : none = (cutName ks).bind encN := by rw [h]; rfl
theorem final_none {ks ws : List Int} (h : cutName ks = some ws) (g : none = encF (lowText (lowText (KStt.txt ws)))) : none = (cutName ks).bind encN := by
  rw [h]
  show none = fix16 (encF (lowText (lowText (KStt.txt ws))))
  rw [← g]; rfl
theorem final_utf {ks ws : List Int} {y : Str} (h : cutName ks = some ws) (g : some y = encF (lowText (lowText (KStt.txt ws)))) (ha : ([Str.ofString "UTF-16BE", Str.ofString "UTF-16LE"].any fun x => x == y) = true) : some (Str.ofString "UTF-8") = (cutName ks).bind encN := by
  rw [h]
  show _ = fix16 (encF (lowText (lowText (KStt.txt ws))))
  rw [← g]
  show _ = if _ then _ else _
  rw [if_pos ha]
theorem final_some {ks ws : List Int} {y : Str} (h : cutName ks = some ws) (g : some y = encF (lowText (lowText (KStt.txt ws)))) (ha : ([Str.ofString "UTF-16BE", Str.ofString "UTF-16LE"].any fun x => x == y) = false) : some y = (cutName ks).bind encN := by
  rw [h]
  show _ = fix16 (encF (lowText (lowText (KStt.txt ws))))
  rw [← g]
  show _ = if _ then _ else _
  rw [ha]; rfl
theorem kw15 : True := by
  k_with "call ref" => (k_here; (refine' useCt (seek_c _ _ _ _ _ _ _ _ _) (by k_asm) (by k_asm) (by k_asm) (by k_asm) (by k_asm) (by exact rfl) (by ktr_room) (by ktr_units) (by (refine ⟨by assumption, ?_, ?_, ?_⟩ <;> omega)) ?_); intro x' t' h' tk' g' F' N'; obtain ⟨gE, gA, gB⟩ := g'; subst gE; simp only [List.cons_append, List.nil_append] at N'; (try dsimp only); (try k_sweep); (try k_fold))
  k_with "call ref" => (k_here; (refine' useCt0 (skip_low_c _ _ _ _ _ _) (by k_asm) (by k_asm) (by k_asm) (by k_asm) (by k_asm) (by exact rfl) (by ktr_room) (by ktr_units) (by (refine ⟨by assumption, ?_, ?_, ?_⟩ <;> omega)) ?_); intro x' t' h' tk' g' F' N'; obtain ⟨gE, gA, gB⟩ := g'; (try dsimp only); (try k_sweep); (try k_fold))
  k_with "call ref" => (k_here; (refine' useCt0 (folded_c _ _ _ _) (by k_asm) (by k_asm) (by k_asm) (by k_asm) (by k_asm) (by exact rfl) (by ktr_room) (by ktr_units) (by exact ⟨by assumption, word_len (by assumption)⟩) ?_); intro x' t' h' tk' g' F' N'; subst g'; (try dsimp only); (try k_sweep); (try k_fold))
  k_with "call ref" => (k_here; (refine' useCt0 (encoding_of_c _ _ _) (by k_asm) (by k_asm) (by k_asm) (by k_asm) (by k_asm) (by exact rfl) (by ktr_room) (by ktr_units) (by exact low_fine (by assumption) (by assumption) (by assumption)) ?_); intro x' t' h' tk' g' F' N'; (rcases x' with _ | y'); all_goals (dsimp only [optV]; (try dsimp only); (try k_sweep); (try k_fold)))
  trivial

theorem xml_c (w : World) (b : Array UInt8) (ks : List Int) (t : Tok) : Ct w 20 89 (KBw.bInts b = ks ∧ ks.length ≤ 900) [.bytes b t] (fun y => y = (cutName ks).bind encN) optV := by
  walk_at "BEGIN"; intro mean mg mb news dp un gd cn cs a ccd cl outer A₀ base h₀ L m s Q E B F X N T hk hd hu hp hret
  obtain ⟨hb, hl⟩ := hp
  have h256 := ints_256 hb
  have hhl := headOf_len ks
  walk_at "ENTER"
  k_with "state" => first | exact ⟨by omega, by omega, rfl⟩ | exact enc_turn_facts (by assumption) (by assumption) (by omega) (by assumption) (by assumption)
  k_with "exec While BoolOp cons nil" => k_while (fun _ a => 5 ≤ a ∧ a ≤ 1000 ∧ dropTo ((headOf ks).drop a.toNat) = dropTo ((headOf ks).drop 5)) (fun _ a => (((headOf ks).length : Int) - a).toNat) "at"
  k_steps
  all_goals first
    | exact retCt hret none (t := 0) (by assumption) (by assumption) (by intro p hp; simp only [List.mem_cons, List.mem_append, hp, true_or, or_true]) (final_no (by walk_at "LEAF"))
    | exact retCt hret none (t := 0) (by assumption) (by assumption) (by intro p hp; simp only [List.mem_cons, List.mem_append, hp, true_or, or_true]) (final_none (by walk_at "LEAF") (by assumption))
    | exact retCt hret (some _) (by assumption) (by assumption) (by intro p hp; simp only [List.mem_cons, List.mem_append, hp, true_or, or_true]) (final_utf (by walk_at "LEAF") (by assumption) (by assumption))
    | exact retCt hret (some _) (by assumption) (by assumption) (by intro p hp; simp only [List.mem_cons, List.mem_append, hp, true_or, or_true]) (final_some (by walk_at "LEAF") (by assumption) (by assumption))
    | exact InvEndN.intro (by assumption) (by assumption) ⟨rfl, fun z h1 => by simp only [if_neg h1], by omega⟩ rfl (by intro p hp; simp only [List.mem_cons, List.mem_append, hp, true_or, or_true]) (by intro p hp; simp only [List.mem_cons, List.mem_append, hp, true_or, or_true])

-- text DecR
theorem codes_take (l : List Nat) (n : Nat) : (l.take n).map (fun c : Nat => (c : Int)) = (l.map fun c : Nat => (c : Int)).take n := List.map_take
theorem len_codes (x : Str) : (codes x).length = x.length := KStt.codes_length x
theorem cps_len (x : Str) : x.cps.toList.length = x.length := Array.length_toList
theorem slice_to (x : Str) {j : Int} (h : 0 ≤ j) : codes (Txt.slice x none (some j)) = (codes x).take j.toNat := by
  have key : ∀ {i : Int}, 0 ≤ i → i ≤ x.length → codes (Txt.slice x none (some i)) = (codes x).take i.toNat := by
    intro i h0 h1
    have e := StrLaws.sliceText_to (x := x) (j := i) ⟨h0, by rw [cps_len]; exact h1⟩
    have e2 : Txt.slice x none (some i) = ⟨((x.cps.toList.drop 0).take (i - 0).toNat).toArray⟩ := e
    rw [e2]
    show (((x.cps.toList.drop 0).take (i - 0).toNat)).map _ = (x.cps.toList.map _).take i.toNat
    rw [List.drop_zero, List.map_take, Int.sub_zero]
  rcases Int.le_total j x.length with q | q
  · exact key h q
  · rw [slice_to_beyond q, key (by omega) (Int.le_refl _)]
    rw [List.take_of_length_le (by rw [len_codes]; omega), List.take_of_length_le (by rw [len_codes]; omega)]
theorem slice_from (x : Str) {i : Int} (h : 0 ≤ i) : codes (Txt.slice x (some i) none) = (codes x).drop i.toNat := by
  rcases Int.le_total i x.length with q | q
  · have e := StrLaws.sliceText_from (x := x) (i := i) ⟨h, by rw [cps_len]; exact q⟩
    have e2 : Txt.slice x (some i) none = ⟨((x.cps.toList.drop i.toNat).take ((x.cps.toList.length : Int) - i).toNat).toArray⟩ := e
    rw [e2]
    show ((x.cps.toList.drop i.toNat).take ((x.cps.toList.length : Int) - i).toNat).map _ = (x.cps.toList.map _).drop i.toNat
    rw [List.take_of_length_le (by rw [List.length_drop]; omega), List.map_drop]
  · rw [slice_from_beyond q, List.drop_eq_nil_of_le (by rw [len_codes]; omega)]
    rfl
theorem strip_left (goes : Nat → Bool) (x : Str) : (Txt.stripBy goes true false x).cps.toList = x.cps.toList.dropWhile goes := by
  have key : ∀ l : List Nat, l.drop (l.takeWhile goes).length = l.dropWhile goes := by
    intro l
    induction l with
    | nil => rfl
    | cons a l ih =>
      rw [List.takeWhile_cons, List.dropWhile_cons]
      cases goes a with
      | true => simpa using ih
      | false => simp
  unfold Txt.stripBy
  split
  · rename_i h
    unfold stripSame at h
    simp only [Bool.and_eq_true, beq_iff_eq] at h
    have h1 : (x.cps.toList.takeWhile goes).length = 0 := h.1
    rw [← key, h1, List.drop_zero]
  · show (Builtin.Str.strSub x (x.cps.toList.takeWhile goes).length x.length).cps.toList = _
    rw [StrLaws.strSub_toList, List.take_of_length_le (by rw [List.length_drop, cps_len]; exact Nat.le_refl _), key]
theorem map_dropWhile {p : Int → Bool} {q : Nat → Bool} (h : ∀ c, p (c : Nat) = q c) : ∀ l : List Nat, (l.dropWhile q).map (fun c : Nat => (c : Int)) = (l.map fun c : Nat => (c : Int)).dropWhile p
  | [] => rfl
  | a :: l => by
    rw [List.dropWhile_cons, List.map_cons, List.dropWhile_cons, h a]
    cases q a with
    | true => simpa using map_dropWhile h l
    | false => simp
theorem map_takeWhile {p : Int → Bool} {q : Nat → Bool} (h : ∀ c, p (c : Nat) = q c) : ∀ l : List Nat, (l.takeWhile q).map (fun c : Nat => (c : Int)) = (l.map fun c : Nat => (c : Int)).takeWhile p
  | [] => rfl
  | a :: l => by
    rw [List.takeWhile_cons, List.map_cons, List.takeWhile_cons, h a]
    cases q a with
    | true => simpa using map_takeWhile h l
    | false => simp
/-- the signs to 32, as the law lays them -/
noncomputable def lowT : Str := mkT (List.range 33)
theorem lowT_has (c : Nat) : lowT.cps.contains c = isLow (c : Int) := by
  show (List.range 33).toArray.contains c = _
  unfold isLow
  rw [List.contains_toArray]
  by_cases h : (c : Int) ≤ 32
  · rw [decide_eq_true h, List.contains_iff_mem, List.mem_range]; omega
  · rw [decide_eq_false h]
    refine Bool.eq_false_iff.mpr fun q => ?_
    rw [List.contains_iff_mem, List.mem_range] at q
    omega
theorem lstrip_low (x : Str) : codes (Txt.lstripChars x lowT) = (codes x).dropWhile isLow := by
  show ((Txt.stripBy lowT.cps.contains true false x).cps.toList).map _ = _
  rw [strip_left]
  exact map_dropWhile (p := isLow) (q := lowT.cps.contains) (fun c => (lowT_has c).symm) _
theorem splitL_head (c : Nat) : ∀ l : List Nat, ∃ r, splitL c l = l.takeWhile (fun a => decide (a ≠ c)) :: r ∧ (r = [] ↔ c ∉ l) ∧ r.length ≤ l.length
  | [] => ⟨[], rfl, by simp, Nat.le_refl _⟩
  | a :: l => by
    obtain ⟨r, h1, h2, h3⟩ := splitL_head c l
    by_cases h : a = c
    · refine ⟨splitL c l, by rw [splitL, if_pos h, List.takeWhile_cons, if_neg (by simpa using h)], ?_, ?_⟩
      · rw [h1]; simp [h]
      · rw [h1, List.length_cons, List.length_cons]; omega
    · refine ⟨r, by rw [splitL, if_neg h, h1, List.takeWhile_cons, if_pos (by simpa using h)], ?_, by rw [List.length_cons]; omega⟩
      rw [h2, List.mem_cons, not_or]
      exact ⟨fun q => ⟨fun e => h e.symm, q⟩, fun q => q.2⟩
theorem split_facts {x p : Str} {c : Nat} {l : List (Str × Tok)} (e : Txt.split x ⟨#[c]⟩ = p :: l.map (·.1)) :
    codes p = (codes x).takeWhile (isNot c) ∧ (l = [] ↔ (c : Int) ∉ codes x) ∧ p.length ≤ x.length ∧ l.length ≤ x.length := by
  have h := split_is x c
  rw [e] at h
  obtain ⟨r, h1, h2, h3⟩ := splitL_head c x.cps.toList
  rw [h1] at h
  simp only [List.map_cons, List.map_map, List.cons.injEq] at h
  have hc : codes p = (codes x).takeWhile (isNot c) := by
    unfold codes
    rw [h.1]
    exact map_takeWhile (fun a => by simp only [isNot]; by_cases q : a = c <;> simp [q]; omega) _
  have hl : l.length = r.length := by rw [← h.2, List.length_map]
  refine ⟨hc, ?_, ?_, ?_⟩
  · have e1 : (l = []) ↔ r = [] := by rw [← List.length_eq_zero_iff, ← List.length_eq_zero_iff, hl]
    rw [e1, h2]
    constructor
    · intro q hm
      obtain ⟨a, ha, e⟩ := List.mem_map.mp hm
      have : a = c := Int.ofNat_inj.mp e
      exact q (this ▸ ha)
    · intro q hm
      exact q (List.mem_map.mpr ⟨c, hm, rfl⟩)
  · rw [← len_codes, hc, ← len_codes]
    exact (List.takeWhile_sublist _).length_le
  · rw [hl, ← cps_len]; exact h3
theorem patE_is : codes (Str.ofString "encoding") = patE := by decide +kernel
theorem at_iff (x : Str) (i : Nat) : StrLaws.At x (Str.ofString "encoding") x.length i ↔ ((codes x).drop i).take 8 = patE := by
  unfold StrLaws.At
  have hl : (Str.ofString "encoding").length = 8 := by decide +kernel
  rw [StrLaws.subAt_eq, hl, beq_iff_eq]
  have inj : ∀ {a b : List Nat}, a.map (fun c : Nat => (c : Int)) = b.map (fun c : Nat => (c : Int)) ↔ a = b := fun {a b} => List.map_inj_right (f := fun c : Nat => (c : Int)) (fun x y e => Int.ofNat_inj.mp e)
  have e : ((codes x).drop i).take 8 = ((x.cps.toList.drop i).take 8).map (fun c : Nat => (c : Int)) := by rw [List.map_take, List.map_drop]; rfl
  rw [e, ← patE_is]
  show _ ↔ _ = (Str.ofString "encoding").cps.toList.map _
  rw [inj]
  refine ⟨fun h => h.2, fun h => ⟨?_, h⟩⟩
  have := congrArg List.length h
  rw [List.length_take, List.length_drop, cps_len, cps_len, hl] at this
  omega
theorem dropTo_none {l : List Int} : (∀ i, (l.drop i).take 8 ≠ patE) → dropTo l = none := by
  induction l with
  | nil => intro _; rfl
  | cons a l ih =>
    intro h
    have h0 : (a :: l).take 8 ≠ patE := h 0
    rw [dropTo, if_neg h0]
    exact ih fun i => h (i + 1)
theorem dropTo_first : ∀ {l : List Int} {i : Nat}, (l.drop i).take 8 = patE → (∀ k, k < i → (l.drop k).take 8 ≠ patE) → dropTo l = some (l.drop (i + 8))
  | [], i, h, _ => by rw [List.drop_nil] at h; cases h
  | a :: l, 0, h, _ => by
    have h0 : (a :: l).take 8 = patE := h
    rw [dropTo, if_pos h0]
  | a :: l, i + 1, h, hn => by
    have h0 : (a :: l).take 8 ≠ patE := hn 0 (Nat.succ_pos _)
    rw [dropTo, if_neg h0]
    exact dropTo_first (l := l) (i := i) h fun k hk => hn (k + 1) (Nat.succ_lt_succ hk)
theorem find_facts (x : Str) : (Txt.find x (Str.ofString "encoding") < 0 → dropTo (codes x) = none) ∧
    (¬ Txt.find x (Str.ofString "encoding") < 0 → dropTo (codes x) = some ((codes x).drop (Txt.find x (Str.ofString "encoding") + 8).toNat)) ∧ Txt.find x (Str.ofString "encoding") ≤ x.length := by
  unfold Txt.find
  rcases StrLaws.occ_head x (Str.ofString "encoding") 1 (Nat.le_refl _) with ⟨e, hn⟩ | ⟨i, r, e, ha, hn⟩
  · rw [e]
    refine ⟨fun _ => dropTo_none fun i q => hn i ((at_iff x i).mpr q), fun h => absurd (by decide) h, ?_⟩
    show (-1 : Int) ≤ _
    omega
  · rw [e]
    refine ⟨fun h => absurd h (by show ¬ ((i : Nat) : Int) < 0; omega), fun _ => ?_, ?_⟩
    · have := dropTo_first ((at_iff x i).mp ha) (fun k hk q => hn k hk ((at_iff x k).mpr q))
      rw [this]
      congr 2
    · have := ha.1
      show ((i : Nat) : Int) ≤ _
      omega

-- text DecW
section
variable {prog : Program} {w : World} {A : Around} {E : Value → Shared → Prop} {s : Shared} {h₀ : Heap} {L l : Addr} {m : Str → Option Value} {news : List (Addr × Obj)} {x y : Str} {t u : Tok} {Q : Value → Shared → Prop} {value slice : Expr}
theorem my_split2 {c : Nat} (hF : Fr h₀ L s.heap m) (hN : News h₀ L s.heap news) (hy : y = one c) (hsz : x.length ≤ 1000)
    (h : ∀ D p0 t0 (l' : List (Str × Tok)) h' k, codes p0 = (codes x).takeWhile (isNot c) → (l' = [] ↔ (c : Int) ∉ codes x) → p0.length ≤ x.length → l'.length ≤ x.length → Fr h₀ L h' m → News h₀ L h' ((D, listOf (Value.str p0 t0 :: strValues l').toArray 0) :: news) → (∀ p ∈ news, p.1 < D) → Q (.ref D) { s with heap := h', toks := k }) :
    wpAny (model prog w) A (call (.builtin "str.split") [.str x t, .str y u]) Q E s := by
  subst hy
  refine my_split hF hN rfl (fun D p0 t0 l' h' k e F N l1 => ?_) (by rw [sizeLine_eq]; omega)
  obtain ⟨h1, h2, h3, h4⟩ := split_facts e
  exact h D p0 t0 l' h' k h1 h2 h3 h4 F N l1
theorem my_len {v : Value} {l' : List (Str × Tok)} {k : Nat} (N : News h₀ L s.heap news) (hm : (l, listOf (v :: strValues l').toArray k) ∈ news) (hz : l'.length ≤ 1000) (h : ∀ t' k', Q (.int ((l'.length : Int) + 1) t') { s with toks := k' }) :
    wpAny (model prog w) A (call (.builtin "len") [.ref l]) Q E s := by
  have e : ((v :: strValues l').toArray.size : Int) = (l'.length : Int) + 1 := by
    rw [List.size_toArray, List.length_cons, strValues, List.length_map]; omega
  refine len_list (News.isList N hm) (by rw [e]; omega) ?_
  rw [e]
  exact h _ _
theorem my_find (h : ∀ (p : Int) t' k', (p < 0 → dropTo (codes x) = none) → (¬ p < 0 → dropTo (codes x) = some ((codes x).drop (p + 8).toNat)) → p ≤ x.length → Q (.int p t') { s with toks := k' }) :
    wpAny (model prog w) A (call (.builtin "str.find") [.str x t, .str (Str.ofString "encoding") u]) Q E s := by
  obtain ⟨h1, h2, h3⟩ := find_facts x
  refine SC.find ?_
  exact h _ _ _ h1 h2 h3
theorem my_lstrip (hy : y = lowT) (hsz : x.length ≤ 1000) (h : ∀ z t' k', codes z = (codes x).dropWhile isLow → z.length ≤ x.length → Q (.str z t') { s with toks := k' }) :
    wpAny (model prog w) A (call (.builtin "str.lstrip") [.str x t, .str y u]) Q E s := by
  subst hy
  exact SCL.lstripChars (fun t' k hl => h _ t' k (lstrip_low x) hl) (by rw [sizeLine_eq]; omega)
theorem my_upto {j : Int} {tj : Tok} (hF : Fr h₀ L s.heap m) (hN : News h₀ L s.heap news) (h0 : 0 ≤ j) (hsz : x.length ≤ 1000)
    (h : ∀ h' t' k z, Fr h₀ L h' m → News h₀ L h' news → codes z = (codes x).take j.toNat → z.length ≤ x.length → Q (.str z t') { s with heap := h', toks := k })
    (hs : subscripted slice false (.str x t) (.ref s.heap.objs.size) = operate [.ref s.heap.objs.size, .str x t] (getItem (.str x t) (.ref s.heap.objs.size)) := by with_unfolding_all rfl)
    (ht : ∀ r, letTemporaryGo value (.str x t) r = pure () := by intro _; with_unfolding_all rfl) :
    wpAny (model prog w) A (subscriptTail value slice (.str x t) (.ref s.heap.objs.size)) Q E { s with heap := s.heap.push { cls := .type "slice", data := .fields #[.none, .int j tj, .none] } } :=
  slice_strN_ns_len hF hN (fun h' t' k F' N' hl => h h' t' k _ F' N' (slice_to x h0) hl) hs ht (by rw [sizeLine_eq]; omega)
theorem my_from {i : Int} {ti : Tok} (hF : Fr h₀ L s.heap m) (hN : News h₀ L s.heap news) (h0 : 0 ≤ i) (hsz : x.length ≤ 1000)
    (h : ∀ h' t' k z, Fr h₀ L h' m → News h₀ L h' news → codes z = (codes x).drop i.toNat → z.length ≤ x.length → Q (.str z t') { s with heap := h', toks := k })
    (hs : subscripted slice false (.str x t) (.ref s.heap.objs.size) = operate [.ref s.heap.objs.size, .str x t] (getItem (.str x t) (.ref s.heap.objs.size)) := by with_unfolding_all rfl)
    (ht : ∀ r, letTemporaryGo value (.str x t) r = pure () := by intro _; with_unfolding_all rfl) :
    wpAny (model prog w) A (subscriptTail value slice (.str x t) (.ref s.heap.objs.size)) Q E { s with heap := s.heap.push { cls := .type "slice", data := .fields #[.int i ti, .none, .none] } } :=
  slice_strN_sn_len hF hN (fun h' t' k F' N' hl => h h' t' k _ F' N' (slice_from x h0) hl) hs ht (by rw [sizeLine_eq]; omega)
theorem codes_inj {x y : Str} (h : codes x = codes y) : x = y := by
  rw [← KStt.txt_codes x, ← KStt.txt_codes y, h]
theorem my_sne {ls : List Int} (hy : codes y = ls) (h : Q (.bool (decide (codes x ≠ ls))) s) : wpAny (model prog w) A (compareOp .NotEq (.str x t) (.str y u)) Q E s := by
  refine PyProof.Rows.ne_str ?_
  have e : (x != y) = decide (codes x ≠ ls) := by
    subst hy
    by_cases q : x = y
    · subst q; simp
    · rw [decide_eq_true (p := codes x ≠ codes y) (fun e => q (codes_inj e))]
      exact bne_iff_ne.mpr q
  rw [e]; exact h
theorem quote_txt {z : Str} (hQ : ([Str.ofString "\"", Str.ofString "'"].any fun y => y == z) = true) (hz : codes z = (codes x).take (1 : Int).toNat) : ∃ (n : Nat) (r : List Int), (n = 34 ∨ n = 39) ∧ codes x = (n : Int) :: r := by
  have e1 : Str.ofString "\"" = one 34 := by decide +kernel
  have e2 : Str.ofString "'" = one 39 := by decide +kernel
  rw [e1, e2] at hQ
  simp only [List.any_cons, List.any_nil, Bool.or_false, Bool.or_eq_true, beq_iff_eq] at hQ
  cases hc : codes x with
  | nil =>
    rw [hc] at hz
    rcases hQ with rfl | rfl <;> cases hz
  | cons a r =>
    rw [hc] at hz
    have hz' : codes z = [a] := hz
    rcases hQ with rfl | rfl
    · exact ⟨34, r, .inl rfl, by injection hz' with q; rw [← q]⟩
    · exact ⟨39, r, .inr rfl, by injection hz' with q; rw [← q]⟩
theorem my_head {z : Str} {ti : Tok} (hQ : ([Str.ofString "\"", Str.ofString "'"].any fun y => y == z) = true) (hz : codes z = (codes x).take (1 : Int).toNat)
    (h : ∀ (n : Nat) r t' k', (n = 34 ∨ n = 39) → codes x = (n : Int) :: r → Q (.str (one n) t') { s with toks := k' })
    (hs : subscripted slice false (.str x t) (.int 0 ti) = operate [.str x t, .int 0 ti] (getItem (.str x t) (.int 0 ti)) := by with_unfolding_all rfl)
    (ht : ∀ r, letTemporaryGo value (.str x t) r = pure () := by intro _; with_unfolding_all rfl) :
    wpAny (model prog w) A (subscriptTail value slice (.str x t) (.int 0 ti)) Q E s := by
  obtain ⟨n, r, hn, hc⟩ := quote_txt hQ hz
  have hl : 1 ≤ x.length := by rw [← len_codes, hc, List.length_cons]; omega
  refine item_str (by decide) (by omega) (by omega) (fun _ => ?_) hs ht
  have e : Txt.item x 0 = one n := by
    obtain ⟨c, hn⟩ := StrLaws.some_at (x := x) (i := 0) (by omega) (by omega)
    have e1 := KStt.code_at hn
    rw [hc] at e1
    have e2 : (n : Int) = (c : Int) := by simpa using e1
    unfold Txt.item Txt.charAt
    rw [StrLaws.at_nonneg (by omega) hn, Int.ofNat_inj.mp e2]; rfl
  rw [e]
  exact h n r _ _ hn hc
/-- every element that passes the test is a text -/
noncomputable def SrcT (prog : Program) (w : World) (A : Around) (h₀ : Heap) (L : Addr) (m : Str → Option Value) (env : Env) (ct elt : Expr) (x : Str) (scope : Scope) (cl : List (Str × Addr)) (Q : Value → Shared → Prop) (xv : Value) (s₁ : Shared) : Prop :=
  ∃ y t news, xv = .str y t ∧ A.handled = none ∧ Fr h₀ L s₁.heap m ∧ News h₀ L s₁.heap news ∧ y.cps.size ≤ sizeLine ∧
    ∀ g, LCt.CompRestT prog w A h₀ L m env ct elt x scope cl { s₁ with heap := g } (fun _ => True) (SignAt y) (LCg.FinE h₀ L m { s₁ with heap := g } Q) y.cps.size 0 [] news
end
section
variable {prog : Program} {w : World} {A : Around} {E : Value → Shared → Prop} {s : Shared} {h₀ : Heap} {L : Addr} {m : Str → Option Value} {env : Env} {ct elt : Expr} {x : Str} {scope : Scope} {cl : List (Str × Addr)} {S : List (Addr × Obj) → Prop} {P : Nat → Value → Prop} {Fin : List Value → List (Addr × Obj) → Prop} {news : List (Addr × Obj)}
theorem ListComp_WT {iter : Expr} {px : Pos} {pos : Pos} {Q : Value → Shared → Prop} (_F₀ : Fr h₀ L s.heap m)
    (hclos : closureFor scope env = pure cl) (hcell : ∀ y ∈ scope.names, y.2 ≠ .cell) (hkind : scope.kind = .function)
    (hnames : ∀ y ∈ scope.names, y.2 = .local → scope.names.lookup y.1 = some .local) (hx : scope.names.lookup x = some .local)
    (h : wpAny (model prog w) A (eval iter env) (SrcT prog w A h₀ L m env ct elt x scope cl Q) E s)
    (hs : ∀ x, foldedSetIterable iter env x = pure x) :
    wpAny (model prog w) A (eval (.ListComp elt [⟨.Name x px, iter, [ct], 0⟩] scope pos) env) Q E s := by
  rw [eval_ListComp]
  refine wpAny_comprehension_free (use := none) rfl hs hclos hkind hnames (wpAny_mono h (fun xv s₁ h₁ => ?_) fun _ _ e => e)
  obtain ⟨y, t, news, rfl, hh, F, N, hsz, R⟩ := h₁
  refine iter_str fun o St W hIo hst => ?_
  refine LCt.block_T (W A hh) hsz hIo (fun i h h' o' nw st e e' _ _ _ => (W A hh).frame i h h' st fun b' hb o'' q => ?_) hcell hkind hx hst (fun b' hb => ?_)
      (F.keeps fun _ _ e => Heap.get?_push_of_some _ e) (N.grown fun _ _ e => Heap.get?_push_of_some _ e) (Nat.ne_of_lt F.ns.lt) (next_is_new F) (fun p hp => Nat.ne_of_lt (Heap.lt_size (N p hp).1)) trivial (R _) ?_
  · rw [List.mem_singleton.mp hb] at q ⊢
    rw [e] at q; rw [e', q]
  · rw [List.mem_singleton.mp hb]
    show s₁.heap.objs.size < (s₁.heap.push o).objs.size
    rw [Heap.size_push]; exact Nat.lt_succ_self _
  · intro D C h tk m' ys news' F' N' o1 hn hC₀ hD₀ hCL hDL hCD offC fin
    refine ⟨m', hn, fun h'' hs'' => fin D h'' tk (F'.change hs'' hCL hC₀) (fun p hp => ?_) o1⟩
    refine ⟨hs''.extBut _ _ ?_ (N' p hp).1, (N' p hp).2⟩
    rcases List.mem_cons.mp hp with rfl | hp
    · exact Ne.symm hCD
    · exact offC p hp
noncomputable def IsText (v : Value) : Prop := ∃ c t, v = .str (one c) t ∧ c < 256
theorem comp_restT {n : Nat} (T : Nat → Bool)
    (turn : ∀ i v I oI C oC D m₂ ys h tk (E' : Value → Shared → Prop), i < n → P i v → LCg.NsObj oC m₂ → m₂ x = some v → Fr h₀ L h m → News h₀ L h ((I, oI) :: (C, oC) :: (D, LCg.lst ys) :: news) → LCg.Off3 I C D news → ((@Ne Nat I C) ∧ (@Ne Nat I D) ∧ (@Ne Nat C D)) →
      wpAny (model prog w) A (isTrue ct (compEnvC scope cl C env) (eval ct (compEnvC scope cl C env))) (fun b s' => if b = true then
        wpAny (model prog w) A (eval elt (compEnvC scope cl C env)) (LCg.CompEnd h₀ L m { s with heap := h, toks := tk } I oI C oC D (LCg.lst ys) S (fun y news' => news' = news ∧ T i = true ∧ IsText y)) E' s'
        else LCg.CompEnd h₀ L m { s with heap := h, toks := tk } I oI C oC D (LCg.lst ys) S (fun _ news' => news' = news ∧ T i = false) Value.none s') E' { s with heap := h, toks := tk })
    (fin : ∀ ys, ys.length ≤ n → (∀ v ∈ ys, IsText v) → (ys = [] ↔ ∀ i, i < n → T i = false) → Fin ys news) : LCt.CompRestT prog w A h₀ L m env ct elt x scope cl s S P Fin n 0 [] news := by
  have key : ∀ (j i : Nat) (ys : List Value), i + j = n → ys.length ≤ i → (∀ v ∈ ys, IsText v) → (ys = [] ↔ ∀ k, k < i → T k = false) → LCt.CompRestT prog w A h₀ L m env ct elt x scope cl s S P Fin j i ys news := by
    intro j
    induction j with
    | zero =>
      intro i ys hi hl hy he
      have e : i = n := by omega
      subst e
      exact LCt.CompRestT.zero (fin ys hl hy he)
    | succ j ih =>
      intro i ys hi hl hy he
      refine LCt.CompRestT.succ ?_
      intro v I oI C oC D m₂ h tk E' hv hC hx F N off ne
      refine wpAny_mono (turn i v I oI C oC D m₂ ys h tk E' (by omega) hv hC hx F N off ne) (fun b s₂ hq => ?_) fun _ _ e => e
      cases b with
      | true =>
        simp only [if_true] at hq ⊢
        refine wpAny_mono hq (fun y s₃ hq => ?_) fun _ _ e => e
        obtain ⟨h', tk', nw, e, F', N', off', hS, hn, hT, hy'⟩ := hq
        rw [hn] at N' off' hS
        refine ⟨h', tk', news, e, F', N', off', hS, ih (i + 1) _ (by omega) (by rw [List.length_append, List.length_singleton]; omega) ?_ ?_⟩
        · intro v' hv'
          rcases List.mem_append.mp hv' with q | q
          · exact hy v' q
          · rw [List.mem_singleton.mp q]; exact hy'
        · refine ⟨fun q => ?_, fun q => ?_⟩
          · exact absurd q (by simp)
          · have := q i (Nat.lt_succ_self _)
            rw [hT] at this; cases this
      | false =>
        simp only [Bool.false_eq_true, if_false] at hq ⊢
        obtain ⟨h', tk', nw, e, F', N', off', hS, hn, hT⟩ := hq
        rw [hn] at N' off' hS
        refine ⟨h', tk', news, e, F', N', off', hS, ih (i + 1) _ (by omega) (by omega) hy ?_⟩
        rw [he]
        refine ⟨fun q k hk => ?_, fun q k hk => q k (by omega)⟩
        rcases Nat.lt_or_ge k i with z | z
        · exact q k z
        · have : k = i := by omega
          rw [this]; exact hT
  exact key n 0 [] (by omega) (Nat.le_refl _) (fun _ h => nomatch h) ⟨fun _ k hk => absurd hk (Nat.not_lt_zero _), fun _ => rfl⟩
theorem strs_texts : ∀ {ys : List Value}, (∀ v ∈ ys, IsText v) → ∃ cs : List Nat, StrsAre ys (cs.map one) ∧ ∀ c ∈ cs, c < 256
  | [], _ => ⟨[], .nil, fun _ h => nomatch h⟩
  | v :: ys, h => by
    obtain ⟨c, t, rfl, hc⟩ := h v List.mem_cons_self
    obtain ⟨cs, hz, hcs⟩ := strs_texts fun v hv => h v (List.mem_cons_of_mem _ hv)
    refine ⟨c :: cs, .cons _ t hz, fun d hd => ?_⟩
    rcases List.mem_cons.mp hd with rfl | hd
    · exact hc
    · exact hcs d hd
end
section
variable {prog : Program} {w : World} {A : Around} {E : Value → Shared → Prop} {s : Shared} {a b : Addr} {xs ys : List Value} {Q : Value → Shared → Prop} {zs : List Str}
theorem strOk_one {c : Nat} (h : c < 256) : PyData.strOk (one c) = true := by
  unfold PyData.strOk one
  simp
  omega
theorem canLay_strs : ∀ cs : List Nat, (∀ c ∈ cs, c < 256) → PyData.canLayAll0 ((cs.map one).map PyData.str) = true
  | [], _ => rfl
  | c :: r, h => by
    have h1 := strOk_one (h c List.mem_cons_self)
    have h2 := canLay_strs r fun d hd => h d (List.mem_cons_of_mem _ hd)
    simp only [List.map_cons, PyData.canLayAll0, PyData.canLay0, h1, h2, Bool.and_self]
theorem depth_strs : ∀ zs : List Str, PyData.depthAll (zs.map PyData.str) = 0
  | [] => rfl
  | _ :: r => by simp [PyData.depthAll, PyData.depth, depth_strs r]
theorem shaped_strs (cs : List Nat) (h : ∀ c ∈ cs, c < 256) : SeqAt.shaped (.list ((cs.map one).map PyData.str)) = true := by
  simp only [SeqAt.shaped, PyData.canLay0, PyData.depth, canLay_strs cs h, depth_strs]
  decide
theorem same_nil (zs : List Str) : PySem.Spec.same (.list (zs.map PyData.str)) (.list ((([] : List Nat).map one).map PyData.str)) = decide (zs = []) := by
  simp only [PySem.Spec.same]
  cases zs <;> simp [PySem.Spec.sameAll]
theorem carried_strs : ∀ {vs : List Value} {zs : List Str}, StrsAre vs zs → CarriedAll vs (zs.map PyData.str)
  | _, _, .nil => .nil
  | _, _, .cons _ t r => .cons (.str _ t) (carried_strs r)
theorem ne_nil (ha : s.heap.IsList a xs.toArray) (hb : s.heap.IsList b ([] : List Value).toArray) (hi : ∀ v ∈ xs, IsText v) (hu : A.units + 64 < cLine) (h : Q (.bool (!decide (xs = []))) s) :
    wpAny (model prog w) A (compareOp .NotEq (.ref a) (.ref b)) Q E s := by
  obtain ⟨cs, hz, hcs⟩ := strs_texts hi
  have e : decide (xs = []) = decide (cs.map one = []) := by
    cases hq : cs with
    | nil => rw [hq] at hz; cases hz; simp
    | cons c r => rw [hq] at hz; cases hz; simp
  rw [e] at h
  exact ne_dataH_same (reads_newData ha (carried_strs hz)) (reads_newData hb (carried_strs (zs := ([] : List Nat).map one) .nil)) (shaped_strs _ hcs) (shaped_strs [] (fun _ h => nomatch h)) hu (SeqAt.noMix_of_shape (.list .str) rfl _ _ (list_map_has fun _ => rfl) (list_map_has fun _ => rfl)) (by rw [same_nil]; exact h)
end

-- text Plain3
theorem c62 : ((62 : Nat) : Int) = 62 := rfl
section
variable {x p0 z z1 z2 z3 z4 z5 y2 p2 : Str} {l' l2 : List (Str × Tok)} {p : Int} {n : Nat} {r : List Int}
theorem law_no62 (h : l' = [] ↔ ¬ (62 : Int) ∈ codes x) (hl : (l'.length : Int) + 1 < 2) : cutName (codes x) = none := by
  have e : l' = [] := List.length_eq_zero_iff.mp (by omega)
  unfold cutName
  rw [if_neg (fun q => h.mp e q.2)]
theorem law_noword (h1 : codes p0 = (codes x).takeWhile (isNot 62)) (h : dropTo (codes p0) = none) : cutName (codes x) = none := by
  unfold cutName
  rw [← h1, h]
  by_cases q : (codes x).take 5 = patX ∧ 62 ∈ codes x
  · rw [if_pos q]; rfl
  · rw [if_neg q]
theorem take_tw {l : List Int} : (l.takeWhile (isNot 62)).take 5 = patX ↔ l.take 5 = patX := by
  constructor
  · intro h
    have e := List.takeWhile_append_dropWhile (p := isNot 62) (l := l)
    have hl : 5 ≤ (l.takeWhile (isNot 62)).length := by
      have := congrArg List.length h
      rw [List.length_take] at this
      have e5 : patX.length = 5 := rfl
      omega
    rw [← e, List.take_append_of_le_length hl, h]
  · intro h
    rw [tw_eq h, headOf_eq h]
    rfl
theorem law_no5 (h1 : codes p0 = (codes x).takeWhile (isNot 62)) (hz : codes z = (codes p0).take (5 : Int).toNat) (h : codes z ≠ patX) : cutName (codes x) = none := by
  unfold cutName
  rw [if_neg]
  rintro ⟨q, _⟩
  refine h ?_
  rw [hz, h1]
  exact take_tw.mpr q
theorem law_word (h1 : codes p0 = (codes x).takeWhile (isNot 62)) (hz : codes z = (codes p0).take (5 : Int).toNat) (h : ¬ codes z ≠ patX) (h62 : l' = [] ↔ ¬ (62 : Int) ∈ codes x) (hl : ¬ (l'.length : Int) + 1 < 2)
    (hd : dropTo (codes p0) = some ((codes p0).drop (p + 8).toNat)) (h5 : codes z5 = (codes p0).drop (p + 8).toNat) (h4 : codes z4 = (codes z5).dropWhile isLow) : cutName (codes x) = afterEq (codes z4) := by
  have a1 : (codes x).take 5 = patX := by
    have := Classical.not_not.mp h
    rw [hz, h1] at this
    exact take_tw.mp this
  have a2 : (62 : Int) ∈ codes x := by
    refine Classical.byContradiction fun q => ?_
    have := h62.mpr q
    rw [this] at hl
    exact hl (by decide)
  unfold cutName
  rw [if_pos ⟨a1, a2⟩, ← h1, hd, h4, h5]
  rfl
theorem law_noeq (hc : cutName (codes x) = afterEq (codes z4)) (hz : codes z3 = (codes z4).take (1 : Int).toNat) (h : codes z3 ≠ [61]) : cutName (codes x) = none := by
  rw [hc]
  cases hq : codes z4 with
  | nil => rfl
  | cons a r =>
    rw [hq] at hz
    have hz' : codes z3 = [a] := hz
    rw [afterEq, if_neg (fun e => h (by rw [hz', e]))]
theorem law_eq (hc : cutName (codes x) = afterEq (codes z4)) (hz : codes z3 = (codes z4).take (1 : Int).toNat) (h : ¬ codes z3 ≠ [61]) (h2 : codes z2 = (codes z4).drop (1 : Int).toNat) (h1 : codes z1 = (codes z2).dropWhile isLow) : cutName (codes x) = afterQ (codes z1) := by
  have h' := Classical.not_not.mp h
  rw [hc]
  cases hq : codes z4 with
  | nil => rw [hz, hq] at h'; cases h'
  | cons a r =>
    rw [hz, hq] at h'
    have e : a = 61 := by
      have e1 : [a] = [61] := h'
      injection e1
    rw [hq] at h2
    have h2' : codes z2 = r := h2
    rw [afterEq, if_pos e, h1, h2']
theorem law_noq (hc : cutName (codes x) = afterQ (codes z1)) (hz : codes z = (codes z1).take (1 : Int).toNat) (hQ : ([Str.ofString "\"", Str.ofString "'"].any fun y => y == z) = false) : cutName (codes x) = none := by
  rw [hc]
  cases hq : codes z1 with
  | nil => rfl
  | cons a r =>
    rw [hq] at hz
    have hz' : codes z = [a] := hz
    have e1 : Str.ofString "\"" = one 34 := by decide +kernel
    have e2 : Str.ofString "'" = one 39 := by decide +kernel
    rw [e1, e2] at hQ
    simp only [List.any_cons, List.any_nil, Bool.or_false, Bool.or_eq_false_iff, beq_eq_false_iff_ne] at hQ
    rw [afterQ, if_neg]
    rintro (q | q)
    · exact hQ.1 (codes_inj (by rw [hz', q]; rfl))
    · exact hQ.2 (codes_inj (by rw [hz', q]; rfl))
theorem law_q (hc : cutName (codes x) = afterQ (codes z1)) (hn : n = 34 ∨ n = 39) (hr : codes z1 = (n : Int) :: r) (hz : codes y2 = (codes z1).drop (1 : Int).toNat) :
    cutName (codes x) = if (n : Int) ∈ codes y2 then (if ((codes y2).takeWhile (isNot n)).all notLow = true then some ((codes y2).takeWhile (isNot n)) else none) else none := by
  rw [hr] at hz
  have hz' : codes y2 = r := hz
  rw [hc, hr, afterQ, if_pos (by omega), hz']
theorem law_noend (hc : cutName (codes x) = afterQ (codes z1)) (hn : n = 34 ∨ n = 39) (hr : codes z1 = (n : Int) :: r) (hz : codes y2 = (codes z1).drop (1 : Int).toNat) (h2 : l2 = [] ↔ ¬ (n : Int) ∈ codes y2) (hl : (l2.length : Int) + 1 < 2) : cutName (codes x) = none := by
  have e : l2 = [] := List.length_eq_zero_iff.mp (by omega)
  rw [law_q hc hn hr hz, if_neg (h2.mp e)]
theorem law_low (hc : cutName (codes x) = afterQ (codes z1)) (hn : n = 34 ∨ n = 39) (hr : codes z1 = (n : Int) :: r) (hz : codes y2 = (codes z1).drop (1 : Int).toNat) (hp : codes p2 = (codes y2).takeWhile (isNot n)) (hL : (codes p2).all notLow = false) : cutName (codes x) = none := by
  rw [law_q hc hn hr hz, ← hp, hL]
  by_cases q : (n : Int) ∈ codes y2
  · rw [if_pos q]; rfl
  · rw [if_neg q]
theorem law_good (hc : cutName (codes x) = afterQ (codes z1)) (hn : n = 34 ∨ n = 39) (hr : codes z1 = (n : Int) :: r) (hz : codes y2 = (codes z1).drop (1 : Int).toNat) (hp : codes p2 = (codes y2).takeWhile (isNot n))
    (h2 : l2 = [] ↔ ¬ (n : Int) ∈ codes y2) (hl : ¬ (l2.length : Int) + 1 < 2) (hL : (codes p2).all notLow = true) : cutName (codes x) = some (codes p2) := by
  have hm : (n : Int) ∈ codes y2 := by
    refine Classical.byContradiction fun q => ?_
    have := h2.mpr q
    rw [this] at hl
    exact hl (by decide)
  rw [law_q hc hn hr hz, if_pos hm, ← hp, if_pos hL]
noncomputable def Fine (x : Str) : Prop := ∀ k ∈ codes x, 0 ≤ k ∧ k < 256
theorem fine_tw {q : Int → Bool} (h : codes z = (codes z1).takeWhile q) (hf : Fine z1) : Fine z := fun k hk => hf k ((List.takeWhile_sublist q).subset (by rw [← h]; exact hk))
theorem fine_dw {q : Int → Bool} (h : codes z = (codes z1).dropWhile q) (hf : Fine z1) : Fine z := fun k hk => hf k ((List.dropWhile_sublist q).subset (by rw [← h]; exact hk))
theorem fine_drop {q : Nat} (h : codes z = (codes z1).drop q) (hf : Fine z1) : Fine z := fun k hk => hf k (List.mem_of_mem_drop (by rw [← h]; exact hk))
end

-- text C13
noncomputable def fixL : Option Str → Option Str
  | none => none
  | some y => if ([Str.ofString "UTF-16LE", Str.ofString "UTF-16BE"].any fun x => x == y) = true then some (Str.ofString "UTF-8") else some y
noncomputable def lawPick (low : Str) (p : Str × Option Str) : Option (Option Str) := if (p.1 == low) = true then some (fixL p.2) else none
/-- the name of a label, as the law finds it -/
noncomputable def lawF (low : Str) : Option Str := (LAB.findSome? (lawPick low)).getD none
theorem pick_hit {low : Str} {i : Nat} {lb : Str} {nm v : Option Str} (hG : ∀ j, j < i → ∀ p, LAB[j]? = some p → lawPick low p = none) (hL : LAB[i]? = some (lb, nm)) (h : (lb == low) = true) (hv : v = fixL nm) : v = lawF low := by
  unfold lawF
  rw [find_at hG hL (by unfold lawPick; rw [if_pos h])]
  exact hv
theorem pick_pass {low : Str} {i : Nat} {lb : Str} {nm : Option Str} (hG : ∀ j, j < i → ∀ p, LAB[j]? = some p → lawPick low p = none) (hL : LAB[i]? = some (lb, nm)) (h : (lb == low) = false) : ∀ j, j < i + 1 → ∀ p, LAB[j]? = some p → lawPick low p = none := by
  intro j hj p hp
  rcases Nat.lt_or_ge j i with q | q
  · exact hG j q p hp
  · have e : j = i := by omega
    rw [e, hL] at hp
    rw [← Option.some.inj hp]
    unfold lawPick
    rw [if_neg (by rw [h]; exact Bool.false_ne_true)]
theorem pick_none {low : Str} (hG : ∀ j, j < 16 → ∀ p, LAB[j]? = some p → lawPick low p = none) : none = lawF low := by
  unfold lawF
  rw [find_none (n := 16) (by decide) hG]
  rfl
theorem fix_in {y : Str} (h : ([Str.ofString "UTF-16LE", Str.ofString "UTF-16BE"].any fun x => x == y) = true) : some (Str.ofString "UTF-8") = fixL (some y) := by
  show _ = if _ then _ else _
  rw [if_pos h]
theorem fix_out {y : Str} (h : ([Str.ofString "UTF-16LE", Str.ofString "UTF-16BE"].any fun x => x == y) = false) : some y = fixL (some y) := by
  show _ = if _ then _ else _
  rw [h]; rfl
noncomputable def StopAt (P : Prop) : Prop := P
theorem stopAt {P : Prop} (h : StopAt P) : P := h
theorem StopAt.go {P : Prop} (h : P) : StopAt P := h
theorem kw16 : True := by
  k_with "pyIter ref" => ((with_reducible show wpAny _ _ (pyIter (Value.ref _)) (fun it s₂ => TurnsAt _ _ _ _ _ _ _ _ _ it s₂) _ _); refine stopAt ?_)
  k_with "exec For Tuple Call cons nil" => (k_here; (rename Fr _ _ _ _ => lF'); (with_unfolding_all refine' For_turns lF' ?_; k_whole))
  trivial
local macro_rules | `(tactic| k_mem) => `(tactic| first | assumption | exact List.mem_append_right _ (by assumption))
theorem low_at {x : Str} {i c : Nat} (hc : x.cps[i]? = some c) : ((codes x).map fun k => one (lowN k.toNat))[i]? = some (one (lowN c)) := by
  rw [List.getElem?_map, KStt.code_at hc]; rfl
theorem low1 {c : Nat} (h : (⟨#[c]⟩ : Str).cps.toList < (Str.ofString "A").cps.toList) : one (lowN c) = ⟨#[c]⟩ := by
  rw [strA] at h
  have h' : c < 65 := (lt_one c 65).mp h
  unfold lowN; rw [if_neg (by omega)]; rfl
theorem low2 {c : Nat} (h : (Str.ofString "Z").cps.toList < (⟨#[c]⟩ : Str).cps.toList) : one (lowN c) = ⟨#[c]⟩ := by
  rw [strZ] at h
  have h' : 90 < c := (lt_one 90 c).mp h
  unfold lowN; rw [if_neg (by omega)]; rfl
theorem low3 {c : Nat} (h : ¬ (⟨#[c]⟩ : Str).cps.toList < (Str.ofString "A").cps.toList) (h2 : ¬ (Str.ofString "Z").cps.toList < (⟨#[c]⟩ : Str).cps.toList) : one (lowN c) = ⟨#[((c : Int) + 32).toNat]⟩ := by
  rw [strA] at h
  rw [strZ] at h2
  have h' : ¬ c < 65 := fun q => h ((lt_one c 65).mpr q)
  have h2' : ¬ 90 < c := fun q => h2 ((lt_one 90 c).mpr q)
  unfold lowN; rw [if_pos (by omega)]; rfl
theorem two_out {z a b : Str} (h : [a, b].contains z = false) : z ≠ a ∧ z ≠ b := by simpa using h
theorem pairs_atN {h₀ : Heap} {L : Addr} {h : Heap} {news : List (Addr × Obj)} {items : Array Value} {r : List (Str × Option Str)} (_ : News h₀ L h news) (h : PairsAre news items.toList r) {i : Nat} {v : Value} (hv : items[i]? = some v) : ∃ a x y t t', r[i]? = some (x, y) ∧ v = .ref a ∧ (a, ({ cls := .type "tuple", data := .seq #[.str x t, optV y t'] } : Obj)) ∈ news := pairs_at h hv
theorem size_of_len {vs : List Value} {n : Nat} (h : vs.length = n) {j : Nat} (hj : j < n) : j < vs.toArray.size := by
  rw [List.size_toArray, h]; exact hj
theorem kw17 : True := by
  k_with "call ref" => (k_here; (k_dflt (refine' useLabels (by k_asm) (by k_asm) (by k_asm) (by k_asm) (by k_asm) (by exact rfl) (by ktr_room) (by ktr_units) ?_)); intro l' own' vs' k' h' tk' hP' hl' hlt' F' N'; (try dsimp only); (try k_sweep); (try k_fold))
  trivial
theorem name_c (w : World) (x : Str) (t : Tok) : Ct w 10 127 (x.length ≤ 1000 ∧ ∀ k ∈ codes x, 0 ≤ k ∧ k < 256) [.str x t] (fun y => y = lawF (lowText x)) optV := by
  walk_at "BEGIN"; intro mean mg mb news dp un gd cn cs a ccd cl outer A₀ base h₀ L m s Q E B F X N T hk hd hu hp hret
  obtain ⟨hl, h256⟩ := hp
  walk_at "ENTER"
  k_steps
  refine ⟨_, _, _, .inl ⟨_, _, rfl, rfl, rfl⟩, rfl, by assumption, by assumption, ?_, fun g => comp_rest (fun i v => ∃ z t, ((codes x).map fun k => one (lowN k.toNat))[i]? = some z ∧ v = .str z t) ?turn ?fin⟩
  case turn =>
    intro i v I oI C oC D m₂ ys h tk E' hi hv hC hx F' N' off ne
    obtain ⟨c, u, hc, rfl⟩ := hv
    have hcl := h256 _ (List.mem_of_getElem? (KStt.code_at hc))
    k_steps
    all_goals refine LCg.CompEnd.intro (by assumption) (by assumption) _ (fun _ h => h) off trivial ⟨rfl, ?_⟩
    · exact ⟨_, _, by rw [low_at hc, low1 (by assumption)], rfl⟩
    · exact ⟨_, _, by rw [low_at hc, low2 (by assumption)], rfl⟩
    · exact ⟨_, _, by rw [low_at hc, low3 (by assumption) (by assumption)], rfl⟩
  case fin =>
    intro ys hys hG D h tk F1 N1 _
    have hS : StrsAre ys ((codes x).map fun k => one (lowN k.toNat)) := strsAre_of (by rw [List.length_map, hys, KStt.codes_length]; rfl) hG
    k_steps
    refine join_is 1 N1 (by k_mem) hS ?_ ?_ (lowText_join x) ?_
    · intro y hy
      obtain ⟨c, _, rfl⟩ := List.mem_map.mp hy
      exact Nat.le_refl _
    · rw [List.length_map, KStt.codes_length]; omega
    · intro t' k'
      clear hS hG
      k_steps
      refine StopAt.go ?_
      rename Fr _ _ _ _ => F0
      rename News _ _ _ _ => N0
      rename ∀ p, p ∈ _ → _ < _ => hlt
      rename PairsAre _ _ _ => hPA
      rename _ = 16 => hl16
      with_unfolding_all refine' for_pairs (fun j => ∀ p, LAB[j]? = some p → lawPick (lowText x) p = none) [Str.ofString "label", Str.ofString "name"] rfl F0 N0 ?hne (fun i v u h tk own hv hG F1 N1 => ?_) (fun u h tk hG F1 N1 => ?_)
      · clear F0 N0
        exact fun p hp => Nat.ne_of_lt (hlt p hp)
      · clear F0 N0
        have hq := pairs_atN (r := LAB) N1 (hPA.mono (fun p hp => List.mem_append_right _ (List.mem_append_left _ hp))) hv
        obtain ⟨a, lb, nm, t1, t2, hL, rfl, hmem⟩ := hq
        cases nm with
        | none =>
          replace hmem : (a, ({ cls := .type "tuple", data := .seq #[.str lb t1, .none] } : Obj)) ∈ _ := hmem
          k_steps
          all_goals first
            | exact retCt hret none (t := 0) (by assumption) (by assumption) (by intro p hp; simp only [List.mem_cons, List.mem_append, hp, true_or, or_true]) (pick_hit hG hL (by assumption) (by first | rfl | exact fix_in (by assumption) | exact fix_out (by assumption)))
            | exact InvEndN.intro (by assumption) (by assumption) ⟨rfl, fun z h1 => by (obtain ⟨q1, q2⟩ := two_out h1; simp only [if_neg q1, if_neg q2, h1, Bool.false_eq_true, if_false]), pick_pass hG hL (by assumption)⟩ rfl (by intro p hp; simp only [List.mem_cons, List.mem_append, hp, true_or, or_true]) (by intro p hp; simp only [List.mem_cons, List.mem_append, hp, true_or, or_true])
        | some y =>
          replace hmem : (a, ({ cls := .type "tuple", data := .seq #[.str lb t1, .str y t2] } : Obj)) ∈ _ := hmem
          k_steps
          all_goals first
            | exact retCt hret (some (Str.ofString "UTF-8")) (by assumption) (by assumption) (by intro p hp; simp only [List.mem_cons, List.mem_append, hp, true_or, or_true]) (pick_hit hG hL (by assumption) (by first | rfl | exact fix_in (by assumption) | exact fix_out (by assumption)))
            | exact retCt hret (some y)  (by assumption) (by assumption) (by intro p hp; simp only [List.mem_cons, List.mem_append, hp, true_or, or_true]) (pick_hit hG hL (by assumption) (by first | rfl | exact fix_in (by assumption) | exact fix_out (by assumption)))
            | exact InvEndN.intro (by assumption) (by assumption) ⟨rfl, fun z h1 => by (obtain ⟨q1, q2⟩ := two_out h1; simp only [if_neg q1, if_neg q2, h1, Bool.false_eq_true, if_false]), pick_pass hG hL (by assumption)⟩ rfl (by intro p hp; simp only [List.mem_cons, List.mem_append, hp, true_or, or_true]) (by intro p hp; simp only [List.mem_cons, List.mem_append, hp, true_or, or_true])
      · k_steps
        all_goals first
            | exact retCt hret none (t := 0) (by assumption) (by assumption) (by intro p hp; simp only [List.mem_cons, List.mem_append, hp, true_or, or_true]) (pick_none fun j hj => hG j (size_of_len hl16 hj))
  · rw [sizeLine_eq]; show x.length ≤ _; omega

-- text C12
theorem gt_is : Str.ofString ">" = one 62 := by decide +kernel
theorem codes_xml : codes (Str.ofString "<?xml") = patX := by decide +kernel
theorem codes_eq1 : codes (Str.ofString "=") = [61] := by decide +kernel
theorem kw18 : True := by
  k_with "call builtin:str.split" => (k_here; (with_reducible show wpAny _ _ (call (Value.builtin "str.split") _) _ _ _); (refine' my_split2 (by k_asm) (by k_asm) (by (first | exact gt_is | exact rfl)) (by omega) ?_); intro D' p' t' l' h' k' hp1' hp2' hp3' hp4' F' N' l1; (try k_lt l1); (try k_sweep))
  k_with "call builtin:len" => (k_here; (with_reducible show wpAny _ _ (call (Value.builtin "len") [Value.ref _]) _ _ _); (refine my_len (by k_asm) (by k_mem) (by omega) ?_); intro t' k')
  k_with "call builtin:str.find" => (k_here; (refine my_find ?_); intro p' t' k' hf1 hf2 hf3)
  k_with "call builtin:str.lstrip" => (k_here; (refine my_lstrip rfl (by omega) ?_); intro z' t' k' hz1 hz2)
  k_with "compareOp NotEq str str" => (k_here; refine my_sne (by first | exact codes_xml | exact codes_eq1) ?_)
  k_with "subscriptTail" => (k_here; (with_reducible show wpAny _ _ (subscriptTail _ (Expr.Slice none (some _) none _) (Value.str _ _) (Value.ref _)) _ _ _); (with_reducible rename Fr _ _ _ _ => F'); (with_reducible rename News _ _ _ _ => N'); (refine my_upto (s := ⟨_, _, _, _, _⟩) F' N' (by omega) (by omega) ?_); clear F' N'; intro h' t' k' z' F' N' hz1 hz2)
  k_with "subscriptTail" => (k_here; (with_reducible show wpAny _ _ (subscriptTail _ (Expr.Slice (some _) none none _) (Value.str _ _) (Value.ref _)) _ _ _); (with_reducible rename Fr _ _ _ _ => F'); (with_reducible rename News _ _ _ _ => N'); (refine my_from (s := ⟨_, _, _, _, _⟩) F' N' (by omega) (by omega) ?_); clear F' N'; intro h' t' k' z' F' N' hz1 hz2)
  trivial
noncomputable def LowAt (i : Nat) (v : Value) : Prop := ∃ t, v = .str (one i) t
theorem lowAt_is {i : Nat} {t : Tok} : LowAt i (.str ⟨#[(0 + (i : Int)).toNat]⟩ t) := ⟨t, by rw [show (0 + (i : Int)).toNat = i by omega]; rfl⟩
theorem low_strs {ys : List Value} (h : ys.length = 33) (hG : ∀ (i : Nat) v, ys[i]? = some v → LowAt i v) : StrsAre ys ((List.range 33).map fun c => one c) :=
  strsAre_of (by rw [h]; rfl) fun i v hv => by
    obtain ⟨t, rfl⟩ := hG i v hv
    have hi : i < 33 := by
      have := (List.getElem?_eq_some_iff.mp hv).1
      omega
    exact ⟨one i, t, by rw [List.getElem?_map, List.getElem?_range hi]; rfl, rfl⟩
theorem join_low : Txt.join (Str.ofString "") ((List.range 33).map fun c => one c) = lowT := by
  rw [join_one (List.range 33) (fun c => c), List.map_id']; rfl
theorem low_small : ∀ y ∈ (List.range 33).map (fun c => one c), y.length ≤ 1 := by
  intro y hy
  obtain ⟨c, _, rfl⟩ := List.mem_map.mp hy
  exact Nat.le_refl _
theorem kw19 : True := by
  k_with "eval ListComp" => (k_here; (with_reducible show wpAny _ _ (eval (Expr.ListComp _ [⟨_, Expr.Call _ _ _ _, [], 0⟩] _ _) _) _ _ _); k_dflt (refine LCg.ListComp_U (F₀ := by k_asm) (by with_unfolding_all rfl) (by decide) (by rfl) (by decide) (by rfl) ?_))
  k_with "CompSrc" => (k_here; k_dflt ((refine LCg.CompSrc.range (n := 33) (by rfl) (by k_asm) (by k_asm) (by assumption) (by decide) (by rfl) (by rw [sizeLine_eq]; decide) ?_); intro g'; (refine comp_rest LowAt (fun i' v' I' oI' C' oC' D' m' ys' h' tk' E' hi' hv' hC' hx' F' N' off' ne' => ?_) (fun ys' hys' hG' => ?_)); ((obtain ⟨t', hv''⟩ := hv'); subst hv''; (try k_fold)); rotate_left; ((have hS' := low_strs hys' hG'); clear hys' hG'; (intro D' h' tk' F' N' o1'); (try simp only [LCg.Off1] at o1'); (try k_fold)); rotate_left))
  k_with "CompEnd" => (k_here; k_dflt ((refine LCg.CompEnd.intro (by assumption) (by assumption) _ (fun _ h => h) (by assumption) trivial ⟨rfl, ?_⟩); exact lowAt_is))
  k_with "call builtin:str.join" => (k_here; k_dflt ((refine join_is 1 (by k_asm) (by k_mem) (by assumption) low_small (by decide) join_low ?_); intro t' k'))
  trivial
local macro_rules | `(tactic| k_all) => `(tactic| ((rename ∀ p, p ∈ _ → _ < _ => hlt'); first | exact fun p hp => Nat.ne_of_lt (hlt' p hp) | exact fun p hp => Nat.ne_of_lt (Nat.lt_succ_of_lt (hlt' p hp))))
theorem kw20 : True := by
  k_with "subscriptTail Name Slice str ref" => (k_here; (with_reducible show wpAny _ _ (subscriptTail _ (Expr.Slice none (some _) none _) (Value.str _ _) (Value.ref _)) _ _ _); (with_reducible rename Fr _ _ _ _ => F'); (with_reducible rename News _ _ _ _ => N'); (refine my_upto (s := ⟨_, _, _, _, _⟩) F' N' (by omega) (by omega) ?_); clear F' N'; intro h' t' k' z' F' N' hz1 hz2)
  k_with "subscriptTail Name Slice str ref" => (k_here; (with_reducible show wpAny _ _ (subscriptTail _ (Expr.Slice (some _) none none _) (Value.str _ _) (Value.ref _)) _ _ _); (with_reducible rename Fr _ _ _ _ => F'); (with_reducible rename News _ _ _ _ => N'); (refine my_from (s := ⟨_, _, _, _, _⟩) F' N' (by omega) (by omega) ?_); clear F' N'; intro h' t' k' z' F' N' hz1 hz2)
  k_with "subscriptTail Name Constant str int" => (k_here; (rename List.any _ _ = true => hQ); (refine my_head hQ (by assumption) ?_); intro n' r' t' k' hn' hr')
  k_with "eval ListComp" => (k_here; (with_reducible show wpAny _ _ (eval (Expr.ListComp _ [⟨_, _, [_], 0⟩] _ _) _) _ _ _); k_dflt (refine ListComp_WT (by k_asm) (by with_unfolding_all rfl) (by decide) (by rfl) (by decide) (by rfl) ?_ (by intro _; rfl)))
  k_with "call ref" => (k_here; (refine' useCt0 (name_c _ _ _) (by k_asm) (by k_asm) (by k_asm) (by k_asm) (by k_asm) (by exact rfl) (by ktr_room) (by ktr_units) (by exact ⟨by omega, by assumption⟩) ?_); intro x' t' h' tk' g' F' N'; (rcases x' with _ | y'); all_goals (dsimp only [optV]; (try dsimp only); (try k_sweep); (try k_fold)))
  trivial

noncomputable def lawN (ws : List Int) : Option Str := lawF (lowText (KStt.txt ws))
theorem low_no {ks : List Int} (h : cutName ks = none) : none = (cutName ks).bind lawN := by rw [h]; rfl
theorem low_yes {ks ws : List Int} {y : Option Str} (h : cutName ks = some ws) (g : y = lawF (lowText (KStt.txt ws))) : y = (cutName ks).bind lawN := by rw [h]; exact g
theorem all_low {y : Str} : (∀ i, i < y.length → ((codes y)[i]?).any isLow = false) ↔ (codes y).all notLow = true := by
  rw [List.all_eq_true]
  constructor
  · intro h k hk
    obtain ⟨i, hi, rfl⟩ := List.mem_iff_getElem.mp hk
    have h2 := h i (by rw [← KStt.codes_length]; exact hi)
    rw [List.getElem?_eq_getElem hi] at h2
    have h3 : isLow (codes y)[i] = false := h2
    unfold isLow at h3; unfold notLow
    simp at h3 ⊢; omega
  · intro h i hi
    have hi' : i < (codes y).length := by rw [KStt.codes_length]; exact hi
    have h2 := h _ (List.getElem_mem hi')
    rw [List.getElem?_eq_getElem hi']
    show isLow (codes y)[i] = false
    unfold notLow at h2; unfold isLow
    simp at h2 ⊢; omega
theorem law_no62' {x : Str} {l' : List (Str × Tok)} (h : l' = [] ↔ ¬ ((62 : Nat) : Int) ∈ codes x) (hl : (l'.length : Int) + 1 < 2) : cutName (codes x) = none := law_no62 h hl
theorem law_noword' {x p0 : Str} {p : Int} (h1 : codes p0 = (codes x).takeWhile (isNot ((62 : Nat) : Int))) (h : p < 0 → dropTo (codes p0) = none) (hp : p < 0) : cutName (codes x) = none := law_noword h1 (h hp)
theorem law_no5' {x p0 z : Str} (h1 : codes p0 = (codes x).takeWhile (isNot ((62 : Nat) : Int))) (hz : codes z = (codes p0).take (5 : Int).toNat) (h : codes z ≠ patX) : cutName (codes x) = none := law_no5 h1 hz h
theorem law_word' {x p0 z z4 z5 : Str} {l' : List (Str × Tok)} {p : Int} (h1 : codes p0 = (codes x).takeWhile (isNot ((62 : Nat) : Int))) (h62 : l' = [] ↔ ¬ ((62 : Nat) : Int) ∈ codes x) (hl : ¬ (l'.length : Int) + 1 < 2) (hp : ¬ p < 0) (hd : ¬ p < 0 → dropTo (codes p0) = some ((codes p0).drop (p + 8).toNat)) (hz : codes z = (codes p0).take (5 : Int).toNat) (h : ¬ codes z ≠ patX)
    (h5 : codes z5 = (codes p0).drop (p + 8).toNat) (h4 : codes z4 = (codes z5).dropWhile isLow) : cutName (codes x) = afterEq (codes z4) := law_word h1 hz h h62 hl (hd hp) h5 h4
theorem kw21 : True := by
  k_with "RASM" => (with_reducible assumption)
  k_with "LAW_LEAF" => (first
  | exact law_no62' (by walk_at "RASM") (by walk_at "RASM")
  | exact law_noword' (by walk_at "RASM") (by walk_at "RASM") (by walk_at "RASM")
  | exact law_no5' (by walk_at "RASM") (by walk_at "RASM") (by walk_at "RASM")
  | ((have hc := law_word' (by walk_at "RASM") (by walk_at "RASM") (by walk_at "RASM") (by walk_at "RASM") (by walk_at "RASM") (by walk_at "RASM") (by walk_at "RASM") (by walk_at "RASM") (by walk_at "RASM")); first
    | exact law_noeq hc (by walk_at "RASM") (by walk_at "RASM")
    | ((have hc2 := law_eq hc (by walk_at "RASM") (by walk_at "RASM") (by walk_at "RASM") (by walk_at "RASM")); first
      | exact law_noq hc2 (by walk_at "RASM") (by walk_at "RASM")
      | exact law_noend hc2 (by walk_at "RASM") (by walk_at "RASM") (by walk_at "RASM") (by walk_at "RASM") (by walk_at "RASM")
      | exact law_low hc2 (by walk_at "RASM") (by walk_at "RASM") (by walk_at "RASM") (by walk_at "RASM") (by walk_at "RASM")
      | exact law_good hc2 (by walk_at "RASM") (by walk_at "RASM") (by walk_at "RASM") (by walk_at "RASM") (by walk_at "RASM") (by walk_at "RASM") (by walk_at "RASM"))))
  k_with "compareOp NotEq ref ref" => (k_here; k_dflt (refine ne_nil (News.isList (by k_asm) (by k_mem)) (News.isList (by k_asm) (by k_mem)) (by assumption) (by ktr_units) ?_))
  trivial
theorem sign_low {c : Nat} {y : Str} {i : Nat} {h : Bool} (hc : y.cps[i]? = some c) (hh : (Builtin.Str.occurrences lowT { cps := #[c] } 0 lowT.length 1).isEmpty = h) : ((codes y)[i]?).any isLow = !h := by
  have e := StrLaws.found_one lowT c
  rw [hh] at e
  rw [KStt.code_at hc, e]
  show isLow (c : Int) = _
  rw [← lowT_has c]
  rw [Bool.eq_iff_iff, decide_eq_true_eq, Array.contains_iff_mem, Array.mem_toList_iff]
theorem fine_at {c : Nat} {y : Str} {i : Nat} (hf : Fine y) (hc : y.cps[i]? = some c) : c < 256 := by
  have := (hf _ (List.mem_of_getElem? (KStt.code_at hc))).2
  omega
theorem not_low {y : Str} {ys : List Value} (hE : ys = [] ↔ (codes y).all notLow = true) (h : ¬ ys = []) : (codes y).all notLow = false := by
  cases q : (codes y).all notLow with
  | false => rfl
  | true => exact absurd (hE.mpr q) h
theorem kw22 : True := by
  k_with "LAW_END" => ((rename ∀ (_ : Option PySem.Str) _ _ _, _ = _ → _ => hretQ); exact retCt hretQ none (t := 0) (by walk_at "RASM") (by walk_at "RASM") (by intro p hp; simp only [List.mem_cons, List.mem_append, hp, true_or, or_true]) (low_no (by walk_at "LAW_LEAF")))
  k_with "LAW_RET" => ((rename ∀ (_ : Option PySem.Str) _ _ _, _ = _ → _ => hretQ); (rename _ = lawF _ => hgotQ); first
  | exact retCt hretQ none (t := 0) (by walk_at "RASM") (by walk_at "RASM") (by intro p hp; simp only [List.mem_cons, List.mem_append, hp, true_or, or_true]) (low_yes (by walk_at "LAW_LEAF") (by rw [KStt.txt_codes]; exact hgotQ))
  | exact retCt hretQ (some _) (by walk_at "RASM") (by walk_at "RASM") (by intro p hp; simp only [List.mem_cons, List.mem_append, hp, true_or, or_true]) (low_yes (by walk_at "LAW_LEAF") (by rw [KStt.txt_codes]; exact hgotQ)))
  trivial
theorem declared_c (w : World) (x : Str) (t : Tok) : Ct w 30 132 (x.length ≤ 900 ∧ ∀ k ∈ codes x, 0 ≤ k ∧ k < 256) [.str x t] (fun y => y = (cutName (codes x)).bind lawN) optV := by
  walk_at "BEGIN"; intro mean mg mb news dp un gd cn cs a ccd cl outer A₀ base h₀ L m s Q E B F X N T hk hd hu hp hret
  obtain ⟨hl, h256⟩ := hp
  walk_at "ENTER"
  k_steps
  all_goals first
  | walk_at "LAW_END"
  | skip
  all_goals (
    rename PySem.Str => p2
    have hfp : Fine p2 := by
      have hFx : Fine x := h256
      repeat (first | walk_at "RASM" | refine fine_dw (by walk_at "RASM") ?_ | refine fine_drop (by walk_at "RASM") ?_ | refine fine_tw (by walk_at "RASM") ?_)
    refine ⟨_, _, _, rfl, rfl, by assumption, by assumption, ?_, fun g => comp_restT (fun i => ((codes p2)[i]?).any isLow) ?turn ?fin⟩
    case turn =>
      intro i v I oI C oC D m₂ ys h tk E' hi hv hC hx F' N' off ne
      obtain ⟨c, u, hc, rfl⟩ := hv
      k_steps
      · exact LCg.CompEnd.intro (by assumption) (by assumption) _ (fun _ h => h) off trivial ⟨rfl, sign_low (h := true) hc (by assumption)⟩
      · exact LCg.CompEnd.intro (by assumption) (by assumption) _ (fun _ h => h) off trivial ⟨rfl, sign_low (h := false) hc (by assumption), _, _, rfl, fine_at hfp hc⟩
    case fin =>
      intro ys hys hT hE D h tk F1 N1 _
      have hE' : ys = [] ↔ (codes p2).all notLow = true := hE.trans all_low
      clear hE
      k_steps
      · have hL := hE'.mp (by assumption)
        walk_at "LAW_RET"
      · have hL := hE'.mp (by assumption)
        walk_at "LAW_RET"
      · have hL := not_low hE' (by assumption)
        walk_at "LAW_END"
    · rw [sizeLine_eq]; show p2.length ≤ _; omega)

-- text C14
noncomputable def mixAt (x : Str) (i : Nat) : Str := if (0 + (i : Int)).fmod 2 = 0 then Txt.upper (Txt.item x (0 + (i : Int))) else Txt.item x (0 + (i : Int))
noncomputable def mixF (x : Str) : Str := Txt.join (Str.ofString "") ((List.range x.length).map (mixAt x))
noncomputable def casedF (x : Str) (n : Int) : Str := if n = 1 then Txt.upper x else if n = 2 then mixF x else x
noncomputable def MixAt (x : Str) (i : Nat) (v : Value) : Prop := (∃ t, v = .str (mixAt x i) t) ∧ (mixAt x i).length ≤ 3
section
variable {prog : Program} {w : World} {A : Around} {h₀ : Heap} {L : Addr} {m : Str → Option Value} {env : Env}
theorem src_len {elt : Expr} {x : Str} {scope : Scope} {cl : List (Str × Addr)} {Fin : Shared → List Value → List (Addr × Obj) → Prop} {r : Addr} {t u v : Tok} {news : List (Addr × Obj)} {s₁ : Shared} {y : Str}
    (hh : A.handled = none) (F : Fr h₀ L s₁.heap m) (N : News h₀ L s₁.heap news) (hr : IsRange s₁.heap r 0 (y.length : Int) 1 t u v) (hl : y.length ≤ 1000)
    (h : ∀ g, LCg.CompRest prog w A h₀ L m env elt x scope cl { s₁ with heap := g } (fun _ => True) (fun i v => ∃ t, v = .int (0 + (i : Int)) t) (Fin { s₁ with heap := g }) y.length 0 [] news) :
    LCg.CompSrc prog w A h₀ L m env elt x scope cl Fin (.ref r) s₁ :=
  LCg.CompSrc.range (n := y.length) hh F N hr (small_one (by decide) (by decide) (by omega) (by omega)) (by rw [rangeSize_nat]; omega) (by rw [sizeLine_eq]; omega) h
end
theorem mix_strs {x : Str} {ys : List Value} (h : ys.length = x.length) (hG : ∀ (i : Nat) v, ys[i]? = some v → MixAt x i v) : StrsAre ys ((List.range x.length).map (mixAt x)) :=
  strsAre_of (by rw [h]; simp) fun i v hv => by
    obtain ⟨⟨t, rfl⟩, _⟩ := hG i v hv
    have hi : i < x.length := by
      have := (List.getElem?_eq_some_iff.mp hv).1
      omega
    exact ⟨_, t, by rw [List.getElem?_map, List.getElem?_range hi]; rfl, rfl⟩
theorem mix_small {x : Str} {ys : List Value} (h : ys.length = x.length) (hG : ∀ (i : Nat) v, ys[i]? = some v → MixAt x i v) : ∀ y ∈ (List.range x.length).map (mixAt x), y.length ≤ 3 := by
  intro y hy
  obtain ⟨i, hi, rfl⟩ := List.mem_map.mp hy
  have hi' : i < ys.length := by rw [h]; exact List.mem_range.mp hi
  exact (hG i _ (List.getElem?_eq_getElem hi')).2
section
variable {prog : Program} {w : World} {A : Around} {h₀ : Heap} {L : Addr} {m : Str → Option Value} {env : Env}
theorem src_mix {elt : Expr} {x : Str} {scope : Scope} {cl : List (Str × Addr)} {Fin : Shared → List Value → List (Addr × Obj) → Prop} {r : Addr} {t u v : Tok} {news : List (Addr × Obj)} {s₁ : Shared} {y : Str}
    (hh : A.handled = none) (F : Fr h₀ L s₁.heap m) (N : News h₀ L s₁.heap news) (hr : IsRange s₁.heap r 0 (y.length : Int) 1 t u v) (hl : y.length ≤ 1000)
    (turn : ∀ (g : Heap) i v I oI C oC D m₂ ys h tk (E' : Value → Shared → Prop), i < y.length → (∃ t, v = .int (0 + (i : Int)) t) → LCg.NsObj oC m₂ → m₂ x = some v → Fr h₀ L h m → News h₀ L h ((I, oI) :: (C, oC) :: (D, LCg.lst ys) :: news) → LCg.Off3 I C D news → ((@Ne Nat I C) ∧ (@Ne Nat I D) ∧ (@Ne Nat C D)) →
      wpAny (model prog w) A (eval elt (compEnvC scope cl C env)) (LCg.CompEnd h₀ L m { s₁ with heap := h, toks := tk } I oI C oC D (LCg.lst ys) (fun _ => True) (ElEnd news (MixAt y i))) E' { s₁ with heap := h, toks := tk })
    (fin : ∀ (g : Heap) ys, StrsAre ys ((List.range y.length).map (mixAt y)) → (∀ z ∈ (List.range y.length).map (mixAt y), z.length ≤ 3) → Fin { s₁ with heap := g } ys news) :
    LCg.CompSrc prog w A h₀ L m env elt x scope cl Fin (.ref r) s₁ :=
  src_len hh F N hr hl fun g => comp_rest (s := { s₁ with heap := g }) (MixAt y) (turn g) fun ys hl hG => fin g ys (mix_strs hl hG) (mix_small hl hG)
end
theorem mix_up {x : Str} {i : Nat} {t : Tok} (h : (0 + (i : Int)).fmod 2 = 0) (h1 : 1 ≤ (Txt.item x (0 + (i : Int))).length ∧ (Txt.item x (0 + (i : Int))).length ≤ 1) (h2 : (Txt.upper (Txt.item x (0 + (i : Int)))).length ≤ 3 * (Txt.item x (0 + (i : Int))).length) : MixAt x i (.str (Txt.upper (Txt.item x (0 + (i : Int)))) t) := by
  have e : mixAt x i = Txt.upper (Txt.item x (0 + (i : Int))) := if_pos h
  exact ⟨⟨t, by rw [e]⟩, by rw [e]; omega⟩
theorem mix_no {x : Str} {i : Nat} {t : Tok} (h : (0 + (i : Int)).fmod 2 ≠ 0) (h1 : 1 ≤ (Txt.item x (0 + (i : Int))).length ∧ (Txt.item x (0 + (i : Int))).length ≤ 1) : MixAt x i (.str (Txt.item x (0 + (i : Int))) t) := by
  have e : mixAt x i = Txt.item x (0 + (i : Int)) := if_neg h
  exact ⟨⟨t, by rw [e]⟩, by rw [e]; omega⟩
theorem kw23 : True := by
  k_with "eval ListComp" => (k_here; (with_reducible show wpAny _ _ (eval (Expr.ListComp _ [⟨_, Expr.Call _ _ _ _, [], 0⟩] _ _) _) _ _ _); k_dflt (refine LCg.ListComp_U (F₀ := by k_asm) (by with_unfolding_all rfl) (by decide) (by rfl) (by decide) (by rfl) ?_))
  k_with "CompSrc" => (k_here; k_dflt ((refine src_mix (by rfl) (by k_asm) (by k_asm) (by assumption) (by omega) (fun g' i' v' I' oI' C' oC' D' m' ys' h' tk' E' hi' hv' hC' hx' F' N' off' ne' => ?_) (fun g' ys' hS' hB' => ?_)); ((obtain ⟨t', hv''⟩ := hv'); subst hv''; (try k_fold)); rotate_left; ((intro D' h' tk' F' N' o1'); (try simp only [LCg.Off1] at o1'); (try k_fold)); rotate_left))
  k_with "CompEnd" => (k_here; k_dflt ((refine LCg.CompEnd.intro (by assumption) (by assumption) _ (fun _ h => h) (by assumption) trivial ⟨rfl, ?_⟩); first | exact mix_up (by assumption) (by assumption) (by assumption) | exact mix_no (by assumption) (by assumption)))
  k_with "call builtin:str.join" => (k_here; k_dflt ((refine join_is 3 (by k_asm) (by k_mem) (by assumption) (by assumption) (by rw [List.length_map, List.length_range]; omega) rfl ?_); intro t' k'))
  trivial
theorem cased1 {x : Str} {n : Int} (h : n = 1) : Txt.upper x = casedF x n := by unfold casedF; rw [if_pos h]
theorem cased2 {x : Str} {n : Int} (h1 : n ≠ 1) (h : n = 2) : Txt.join (Str.ofString "") ((List.range x.length).map (mixAt x)) = casedF x n := by unfold casedF; rw [if_neg h1, if_pos h]; rfl
theorem cased3 {x : Str} {n : Int} (h1 : n ≠ 1) (h : n ≠ 2) : x = casedF x n := by unfold casedF; rw [if_neg h1, if_neg h]
theorem cased_c (w : World) (x : Str) (t : Tok) (n : Int) (tn : Tok) : Ct w 10 115 (x.length ≤ 40) [.str x t, .int n tn] (fun (y : Str) => y = casedF x n) (fun y t => .str y t) := by
  walk_at "BEGIN"; intro mean mg mb news dp un gd cn cs a ccd cl outer A₀ base h₀ L m s Q E B F X N T hk hd hu hp hret
  walk_at "ENTER"
  k_steps
  all_goals first
    | exact retCt hret _ (by assumption) (by assumption) (by intro p hp; simp only [List.mem_cons, List.mem_append, hp, true_or, or_true]) (cased1 (by assumption))
    | exact retCt hret _ (by assumption) (by assumption) (by intro p hp; simp only [List.mem_cons, List.mem_append, hp, true_or, or_true]) (cased2 (by assumption) (by assumption))
    | exact retCt hret _ (by assumption) (by assumption) (by intro p hp; simp only [List.mem_cons, List.mem_append, hp, true_or, or_true]) (cased3 (by assumption) (by assumption))

-- text Plain4a
abbrev St := Option (List Nat)
/-- codes that no label has -/
noncomputable def bad (c : Nat) : Bool := Nat.ble c 32 || [33, 34, 39, 60, 62, 63, 96].contains c
noncomputable def stepQ (q : Nat) (st : St) (c : Nat) : St := if c = q then some [] else if bad c = true then none else st.map (lowN c :: ·)
noncomputable def runQ (q : Nat) : St → List Nat → St
  | st, [] => st
  | st, c :: l => runQ q (stepQ q st c) l
noncomputable def emitQ (P : List (List Nat)) (q : Nat) : St → Nat → Bool
  | none, _ => true
  | some acc, c => if c = q then P.contains acc else true
/-- every word that is closed on the way is one of P -/
noncomputable def okQ (P : List (List Nat)) (q : Nat) : St → List Nat → Bool
  | _, [] => true
  | st, c :: l => emitQ P q st c && okQ P q (stepQ q st c) l
/-- so, and every state on the way is one of C -/
noncomputable def preQ (C : List St) (P : List (List Nat)) (q : Nat) : St → List Nat → Bool
  | st, [] => C.contains st
  | st, c :: l => C.contains st && (emitQ P q st c && preQ C P q (stepQ q st c) l)
theorem run_app (q : Nat) : ∀ (a : List Nat) (st : St) (b : List Nat), runQ q st (a ++ b) = runQ q (runQ q st a) b
  | [], _, _ => rfl
  | c :: a, st, b => run_app q a (stepQ q st c) b
theorem ok_app {P : List (List Nat)} {q : Nat} : ∀ {a : List Nat} {st : St} {b : List Nat}, okQ P q st (a ++ b) = true ↔ okQ P q st a = true ∧ okQ P q (runQ q st a) b = true
  | [], st, b => by simp [okQ, runQ]
  | c :: a, st, b => by
    have := ok_app (P := P) (q := q) (a := a) (st := stepQ q st c) (b := b)
    simp only [List.cons_append, okQ, Bool.and_eq_true, runQ, this, and_assoc]
theorem pre_app {C : List St} {P : List (List Nat)} {q : Nat} : ∀ {a : List Nat} {st : St} {b : List Nat}, preQ C P q st a = true → preQ C P q (runQ q st a) b = true → preQ C P q st (a ++ b) = true
  | [], _, _, _, h => h
  | c :: a, st, b, h, k => by
    simp only [preQ, Bool.and_eq_true] at h
    simp only [List.cons_append, preQ, Bool.and_eq_true]
    exact ⟨h.1, h.2.1, pre_app h.2.2 k⟩
theorem pre_take {C : List St} {P : List (List Nat)} {q : Nat} : ∀ {a : List Nat} {st : St} (n : Nat), preQ C P q st a = true → okQ P q st (a.take n) = true ∧ runQ q st (a.take n) ∈ C
  | [], st, n, h => by
    simp only [preQ] at h
    rw [List.take_nil]
    exact ⟨rfl, List.contains_iff_mem.mp h⟩
  | c :: a, st, 0, h => by
    simp only [preQ, Bool.and_eq_true] at h
    exact ⟨rfl, List.contains_iff_mem.mp h.1⟩
  | c :: a, st, n + 1, h => by
    simp only [preQ, Bool.and_eq_true] at h
    obtain ⟨k1, k2⟩ := pre_take n h.2.2
    exact ⟨by simp only [List.take_succ_cons, okQ, Bool.and_eq_true]; exact ⟨h.2.1, k1⟩, k2⟩
/-- one stage: from the states S by the pieces X to the states S' -/
noncomputable def stageQ (C : List St) (P : List (List Nat)) (q : Nat) (S : List St) (X : List (List Nat)) (S' : List St) : Bool := S.all fun st => X.all fun x => preQ C P q st x && S'.contains (runQ q st x)
theorem stage_app {C : List St} {P : List (List Nat)} {q : Nat} {S S' : List St} {X : List (List Nat)} (h : stageQ C P q S X S' = true) {st : St} {x : List Nat} (h1 : st ∈ S) (h2 : x ∈ X) : preQ C P q st x = true ∧ runQ q st x ∈ S' := by
  have := List.all_eq_true.mp (List.all_eq_true.mp h st h1) x h2
  simp only [Bool.and_eq_true] at this
  exact ⟨this.1, List.contains_iff_mem.mp this.2⟩
/-- a word between two quotes, free of bad codes, is closed on the way -/
theorem ok_word {P : List (List Nat)} {q : Nat} {st : St} {p ws r : List Nat} (h : okQ P q st (p ++ q :: (ws ++ q :: r)) = true) (h1 : q ∉ ws) (h2 : ∀ k ∈ ws, bad k = false) : (ws.map lowN).reverse ∈ P := by
  have k1 := (ok_app.mp h).2
  simp only [okQ, Bool.and_eq_true] at k1
  have e : stepQ q (runQ q st p) q = some [] := if_pos rfl
  rw [e] at k1
  have k2 := (ok_app.mp k1.2).2
  have run_w : ∀ (ws acc : List Nat), q ∉ ws → (∀ k ∈ ws, bad k = false) → runQ q (some acc) ws = some ((ws.map lowN).reverse ++ acc) := by
    intro ws
    induction ws with
    | nil => intro acc _ _; rfl
    | cons c ws ih =>
      intro acc h1 h2
      have e1 : stepQ q (some acc) c = some (lowN c :: acc) := by
        unfold stepQ
        rw [if_neg (fun x => h1 (by rw [x]; exact List.mem_cons_self)), if_neg (by rw [h2 c List.mem_cons_self]; exact Bool.false_ne_true)]
        rfl
      show runQ q (stepQ q (some acc) c) ws = _
      rw [e1, ih _ (fun x => h1 (List.mem_cons_of_mem _ x)) (fun k hk => h2 k (List.mem_cons_of_mem _ hk))]
      simp
  rw [run_w ws [] h1 h2, List.append_nil] at k2
  simp only [okQ, emitQ, Bool.and_eq_true, if_true] at k2
  exact List.contains_iff_mem.mp k2.1
theorem dropTo_suf : ∀ {l r : List Int}, dropTo l = some r → ∃ p, l = p ++ r
  | [], _, h => by simp [dropTo] at h
  | a :: l, r, h => by
    unfold dropTo at h
    split at h
    · exact ⟨(a :: l).take 8, by rw [← Option.some.inj h, List.take_append_drop]⟩
    · obtain ⟨p, e⟩ := dropTo_suf h
      exact ⟨a :: p, by rw [e]; rfl⟩
theorem dw_suf (p : Int → Bool) (l : List Int) : ∃ a, l = a ++ l.dropWhile p := ⟨l.takeWhile p, (List.takeWhile_append_dropWhile).symm⟩
theorem afterQ_is : ∀ {l ws : List Int}, afterQ l = some ws → ∃ q r, (q = 34 ∨ q = 39) ∧ l = q :: (ws ++ q :: r) ∧ q ∉ ws ∧ ∀ k ∈ ws, 32 < k
  | [], _, h => by simp [afterQ] at h
  | q :: r, ws, h => by
    unfold afterQ at h; dsimp only at h
    by_cases hq : q = 34 ∨ q = 39
    · rw [if_pos hq] at h
      by_cases hm : q ∈ r
      · rw [if_pos hm] at h
        by_cases hl : (r.takeWhile (isNot q)).all notLow = true
        · rw [if_pos hl] at h
          have e := Option.some.inj h
          have h1 : q ∉ r.takeWhile (isNot q) := by
            intro hx
            have := List.all_eq_true.mp (List.all_takeWhile (p := isNot q) (l := r)) q hx
            simp [isNot] at this
          have e2 : r = r.takeWhile (isNot q) ++ r.dropWhile (isNot q) := (List.takeWhile_append_dropWhile).symm
          have h3 : r.dropWhile (isNot q) ≠ [] := by
            intro hx
            rw [hx, List.append_nil] at e2
            exact h1 (by rw [← e2]; exact hm)
          obtain ⟨b, r', e3⟩ := List.exists_cons_of_ne_nil h3
          have e4 : b = q := by
            have := List.head_dropWhile_not (isNot q) h3
            simp only [e3, List.head_cons] at this
            simpa [isNot] using this
          rw [e3, e4, e] at e2
          refine ⟨q, r', hq, by rw [e2], by rw [← e]; exact h1, fun k hk => ?_⟩
          have := List.all_eq_true.mp hl k (by rw [e]; exact hk)
          simpa [notLow] using this
        · rw [if_neg hl] at h; cases h
      · rw [if_neg hm] at h; cases h
    · rw [if_neg hq] at h; cases h
theorem afterEq_is : ∀ {l ws : List Int}, afterEq l = some ws → ∃ p r, l = p ++ r ∧ afterQ r = some ws
  | [], _, h => by simp [afterEq] at h
  | a :: r2, ws, h => by
    unfold afterEq at h; dsimp only at h
    by_cases he : a = 61
    · rw [if_pos he] at h
      obtain ⟨p4, e4⟩ := dw_suf isLow r2
      exact ⟨a :: p4, _, by rw [List.cons_append, ← e4], h⟩
    · rw [if_neg he] at h; cases h
theorem cut_is {l ws : List Int} (h : cutName l = some ws) : ∃ p q r, (q = 34 ∨ q = 39) ∧ l = p ++ q :: (ws ++ q :: r) ∧ q ∉ ws ∧ ∀ k ∈ ws, 32 < k := by
  unfold cutName at h
  by_cases hc : l.take 5 = patX ∧ 62 ∈ l
  · rw [if_pos hc] at h
    obtain ⟨r1, e1, h1⟩ := Option.bind_eq_some_iff.mp h
    obtain ⟨p1, e2⟩ := dropTo_suf e1
    obtain ⟨p2, e3⟩ := dw_suf isLow r1
    obtain ⟨p3, r3, e5, h3⟩ := afterEq_is h1
    obtain ⟨q, r, hq, e6, n1, n2⟩ := afterQ_is h3
    have e7 : l = l.takeWhile (isNot 62) ++ l.dropWhile (isNot 62) := (List.takeWhile_append_dropWhile).symm
    refine ⟨p1 ++ p2 ++ p3, q, r ++ l.dropWhile (isNot 62), hq, ?_, n1, n2⟩
    have e8 : l.takeWhile (isNot 62) = p1 ++ (p2 ++ (p3 ++ q :: (ws ++ q :: r))) := by rw [e2]; conv => lhs; rw [e3, e5, e6]
    refine e7.trans ?_
    rw [e8]
    simp
  · rw [if_neg hc] at h; cases h
theorem cut_nat {N : List Nat} {ws : List Int} (h : cutName (N.map fun (n : Nat) => (n : Int)) = some ws) : ∃ (p : List Nat) (q : Nat) (ns r : List Nat), (q = 34 ∨ q = 39) ∧ N = p ++ q :: (ns ++ q :: r) ∧ q ∉ ns ∧ (∀ k ∈ ns, 32 < k) ∧ ws = ns.map fun (n : Nat) => (n : Int) := by
  obtain ⟨p, q, r, hq, e, n1, n2⟩ := cut_is h
  obtain ⟨p', l1, rfl, e1, e2⟩ := List.map_eq_append_iff.mp e
  obtain ⟨q', l2, rfl, e3, e4⟩ := List.map_eq_cons_iff.mp e2
  obtain ⟨ns, l3, rfl, e5, e6⟩ := List.map_eq_append_iff.mp e4
  obtain ⟨q2, r', rfl, e7, e8⟩ := List.map_eq_cons_iff.mp e6
  have hqq : q2 = q' := by omega
  subst hqq
  refine ⟨p', q2, ns, r', by omega, rfl, fun hm => n1 ?_, fun k hk => ?_, e5.symm⟩
  · rw [← e5, ← e3]; exact List.mem_map_of_mem hm
  · have := n2 (k : Int) (by rw [← e5]; exact List.mem_map_of_mem hk)
    omega

-- text Plain4b
noncomputable def xH : List (List Nat) := [[60, 63, 120, 109, 108, 32], [60, 63, 120, 109, 108, 32, 118, 101, 114, 115, 105, 111, 110, 61, 39, 49, 46, 48, 39, 32], [60, 63, 120, 109, 108], [60, 63, 120, 109, 108, 0, 10], [60, 63, 120, 109, 108, 32, 101, 110, 99, 111, 100, 105, 110, 9, 120, 32], [60, 63, 88, 77, 76, 32], [60, 63, 120, 109], [32, 60, 63, 120, 109, 108, 32]]
noncomputable def xW : List (List Nat) := [[101, 110, 99, 111, 100, 105, 110, 103], [101, 110, 99, 111, 100, 105, 110, 103], [120, 101, 110, 99, 111, 100, 105, 110, 103], [69, 110, 99, 111, 100, 105, 110, 103], [101, 110, 99, 111, 100, 105, 110], [101, 110, 99, 111, 100, 105, 110, 103, 101, 110, 99, 111, 100, 105, 110, 103], [101, 110, 99, 111, 100, 105, 110, 103, 32, 101, 110, 99, 111, 100, 105, 110, 103]]
noncomputable def xG : List (List Nat) := [[], [32], [0, 31], [9, 13, 10, 12, 32], [33], [127]]
noncomputable def xS : List (List Nat) := [[61], [61], [61, 61], [58], [], [61, 33]]
noncomputable def xO : List (List Nat) := [[34], [39], [], [120], [96]]
noncomputable def xL : List (List Nat) := [[117, 116, 102, 45, 56], [85, 84, 70, 45, 56], [85, 116, 70, 45, 56], [107, 111, 105, 56, 45, 114], [75, 79, 73, 56, 45, 82], [75, 111, 73, 56, 45, 114], [117, 110, 105, 99, 111, 100, 101], [85, 78, 73, 67, 79, 68, 69], [85, 110, 73, 99, 79, 100, 69], [120, 45, 117, 115, 101, 114, 45, 100, 101, 102, 105, 110, 101, 100], [88, 45, 85, 83, 69, 82, 45, 68, 69, 70, 73, 78, 69, 68], [88, 45, 85, 115, 69, 114, 45, 100, 69, 102, 73, 110, 69, 100], [110, 111, 117, 103, 104, 116], [78, 79, 85, 71, 72, 84], [78, 111, 85, 103, 72, 116], [117, 116, 102, 45, 49, 54, 98, 101], [85, 84, 70, 45, 49, 54, 66, 69], [85, 116, 70, 45, 49, 54, 66, 101], [108, 57], [76, 57], [76, 57], [116, 105, 115, 45, 54, 50, 48], [84, 73, 83, 45, 54, 50, 48], [84, 105, 83, 45, 54, 50, 48], [108, 111, 103, 105, 99, 97, 108], [76, 79, 71, 73, 67, 65, 76], [76, 111, 71, 105, 67, 97, 76], [115, 106, 105, 115], [83, 74, 73, 83], [83, 106, 73, 115], [99, 121, 114, 105, 108, 108, 105, 99], [67, 89, 82, 73, 76, 76, 73, 67], [67, 121, 82, 105, 76, 108, 73, 99], [117, 115, 45, 97, 115, 99, 105, 105], [85, 83, 45, 65, 83, 67, 73, 73], [85, 115, 45, 97, 83, 99, 73, 105], [103, 98, 107], [71, 66, 75], [71, 98, 75], [107, 111, 105, 56], [75, 79, 73, 56], [75, 111, 73, 56], [107, 111, 105], [75, 79, 73], [75, 111, 73], [117, 116, 102, 45, 49, 54], [85, 84, 70, 45, 49, 54], [85, 116, 70, 45, 49, 54]]
noncomputable def xC : List (List Nat) := [[34], [39], [], [120], [96], [32, 34], [32, 39], [32], [32, 120], [32, 96], [33, 34], [33, 39], [33], [33, 120], [33, 96], [0, 34], [0, 39], [0], [0, 120], [0, 96]]
noncomputable def xT : List (List Nat) := [[63, 62], [62], [32, 97, 61, 39, 39, 63, 62], [34, 62], [39, 62], [], [63]]
noncomputable def xB : List (List Nat) := [[], [60, 112, 32, 120, 61, 39, 39, 62], [39, 62], [34, 62]]
noncomputable def pw : List (List Nat) := [[], [45, 56, 105, 111, 107], [45, 102, 116, 117], [45, 114, 101, 115, 117, 45, 120], [45, 115, 105, 116], [45, 115, 117], [45, 120], [46, 49], [48, 46, 49], [48, 50, 54, 45, 115, 105, 116], [49], [49, 45, 102, 116, 117], [50, 54, 45, 115, 105, 116], [54, 45, 115, 105, 116], [54, 49, 45, 102, 116, 117], [56, 45, 102, 116, 117], [56, 105, 111, 107], [57, 108], [97, 45, 115, 117], [97, 99, 105, 103, 111, 108], [98, 54, 49, 45, 102, 116, 117], [98, 103], [99], [99, 105, 103, 111, 108], [99, 105, 108, 108, 105, 114, 121, 99], [99, 105, 110, 117], [99, 115, 97, 45, 115, 117], [100, 45, 114, 101, 115, 117, 45, 120], [100, 101, 110, 105, 102, 101, 100, 45, 114, 101, 115, 117, 45, 120], [100, 111, 99, 105, 110, 117], [101, 98, 54, 49, 45, 102, 116, 117], [101, 100, 45, 114, 101, 115, 117, 45, 120], [101, 100, 111, 99, 105, 110, 117], [101, 110, 105, 102, 101, 100, 45, 114, 101, 115, 117, 45, 120], [101, 115, 117, 45, 120], [102, 101, 100, 45, 114, 101, 115, 117, 45, 120], [102, 116, 117], [103], [103, 111, 108], [103, 117, 111, 110], [104, 103, 117, 111, 110], [105, 99, 115, 97, 45, 115, 117], [105, 102, 101, 100, 45, 114, 101, 115, 117, 45, 120], [105, 103, 111, 108], [105, 105, 99, 115, 97, 45, 115, 117], [105, 106, 115], [105, 108, 108, 105, 114, 121, 99], [105, 110, 117], [105, 111, 107], [105, 114, 121, 99], [105, 116], [106, 115], [107], [107, 98, 103], [108], [108, 97, 99, 105, 103, 111, 108], [108, 105, 114, 121, 99], [108, 108, 105, 114, 121, 99], [110], [110, 105, 102, 101, 100, 45, 114, 101, 115, 117, 45, 120], [110, 117], [111, 99, 105, 110, 117], [111, 107], [111, 108], [111, 110], [114, 45, 56, 105, 111, 107], [114, 101, 115, 117, 45, 120], [114, 121, 99], [115], [115, 97, 45, 115, 117], [115, 105, 106, 115], [115, 105, 116], [115, 117], [115, 117, 45, 120], [116], [116, 104, 103, 117, 111, 110], [116, 117], [117], [117, 45, 120], [117, 111, 110], [120], [120, 48, 50, 54, 45, 115, 105, 116], [120, 54, 49, 45, 102, 116, 117], [120, 56, 45, 102, 116, 117], [120, 56, 105, 111, 107], [120, 57, 108], [120, 99, 105, 108, 108, 105, 114, 121, 99], [120, 100, 101, 110, 105, 102, 101, 100, 45, 114, 101, 115, 117, 45, 120], [120, 101, 98, 54, 49, 45, 102, 116, 117], [120, 101, 100, 111, 99, 105, 110, 117], [120, 105, 105, 99, 115, 97, 45, 115, 117], [120, 105, 111, 107], [120, 107, 98, 103], [120, 108, 97, 99, 105, 103, 111, 108], [120, 114, 45, 56, 105, 111, 107], [120, 115, 105, 106, 115], [120, 116, 104, 103, 117, 111, 110], [121, 99]]
noncomputable def sO34 : List St := [none, some []]
noncomputable def sL34 : List St := [none, some [48, 50, 54, 45, 115, 105, 116], some [54, 49, 45, 102, 116, 117], some [56, 45, 102, 116, 117], some [56, 105, 111, 107], some [57, 108], some [99, 105, 108, 108, 105, 114, 121, 99], some [100, 101, 110, 105, 102, 101, 100, 45, 114, 101, 115, 117, 45, 120], some [101, 98, 54, 49, 45, 102, 116, 117], some [101, 100, 111, 99, 105, 110, 117], some [105, 105, 99, 115, 97, 45, 115, 117], some [105, 111, 107], some [107, 98, 103], some [108, 97, 99, 105, 103, 111, 108], some [114, 45, 56, 105, 111, 107], some [115, 105, 106, 115], some [116, 104, 103, 117, 111, 110]]
noncomputable def sC34 : List St := [none, some [], some [45, 56, 105, 111, 107], some [45, 102, 116, 117], some [45, 114, 101, 115, 117, 45, 120], some [45, 115, 105, 116], some [45, 115, 117], some [45, 120], some [48, 50, 54, 45, 115, 105, 116], some [49, 45, 102, 116, 117], some [50, 54, 45, 115, 105, 116], some [54, 45, 115, 105, 116], some [54, 49, 45, 102, 116, 117], some [56, 45, 102, 116, 117], some [56, 105, 111, 107], some [57, 108], some [97, 45, 115, 117], some [97, 99, 105, 103, 111, 108], some [98, 54, 49, 45, 102, 116, 117], some [98, 103], some [99], some [99, 105, 103, 111, 108], some [99, 105, 108, 108, 105, 114, 121, 99], some [99, 105, 110, 117], some [99, 115, 97, 45, 115, 117], some [100, 45, 114, 101, 115, 117, 45, 120], some [100, 101, 110, 105, 102, 101, 100, 45, 114, 101, 115, 117, 45, 120], some [100, 111, 99, 105, 110, 117], some [101, 98, 54, 49, 45, 102, 116, 117], some [101, 100, 45, 114, 101, 115, 117, 45, 120], some [101, 100, 111, 99, 105, 110, 117], some [101, 110, 105, 102, 101, 100, 45, 114, 101, 115, 117, 45, 120], some [101, 115, 117, 45, 120], some [102, 101, 100, 45, 114, 101, 115, 117, 45, 120], some [102, 116, 117], some [103], some [103, 111, 108], some [103, 117, 111, 110], some [104, 103, 117, 111, 110], some [105, 99, 115, 97, 45, 115, 117], some [105, 102, 101, 100, 45, 114, 101, 115, 117, 45, 120], some [105, 103, 111, 108], some [105, 105, 99, 115, 97, 45, 115, 117], some [105, 106, 115], some [105, 108, 108, 105, 114, 121, 99], some [105, 110, 117], some [105, 111, 107], some [105, 114, 121, 99], some [105, 116], some [106, 115], some [107], some [107, 98, 103], some [108], some [108, 97, 99, 105, 103, 111, 108], some [108, 105, 114, 121, 99], some [108, 108, 105, 114, 121, 99], some [110], some [110, 105, 102, 101, 100, 45, 114, 101, 115, 117, 45, 120], some [110, 117], some [111, 99, 105, 110, 117], some [111, 107], some [111, 108], some [111, 110], some [114, 45, 56, 105, 111, 107], some [114, 101, 115, 117, 45, 120], some [114, 121, 99], some [115], some [115, 97, 45, 115, 117], some [115, 105, 106, 115], some [115, 105, 116], some [115, 117], some [115, 117, 45, 120], some [116], some [116, 104, 103, 117, 111, 110], some [116, 117], some [117], some [117, 45, 120], some [117, 111, 110], some [120], some [120, 48, 50, 54, 45, 115, 105, 116], some [120, 54, 49, 45, 102, 116, 117], some [120, 56, 45, 102, 116, 117], some [120, 56, 105, 111, 107], some [120, 57, 108], some [120, 99, 105, 108, 108, 105, 114, 121, 99], some [120, 100, 101, 110, 105, 102, 101, 100, 45, 114, 101, 115, 117, 45, 120], some [120, 101, 98, 54, 49, 45, 102, 116, 117], some [120, 101, 100, 111, 99, 105, 110, 117], some [120, 105, 105, 99, 115, 97, 45, 115, 117], some [120, 105, 111, 107], some [120, 107, 98, 103], some [120, 108, 97, 99, 105, 103, 111, 108], some [120, 114, 45, 56, 105, 111, 107], some [120, 115, 105, 106, 115], some [120, 116, 104, 103, 117, 111, 110], some [121, 99]]
noncomputable def sT34 : List St := [none, some [], some [45, 56, 105, 111, 107], some [45, 102, 116, 117], some [45, 114, 101, 115, 117, 45, 120], some [45, 115, 105, 116], some [45, 115, 117], some [45, 120], some [48, 50, 54, 45, 115, 105, 116], some [49, 45, 102, 116, 117], some [50, 54, 45, 115, 105, 116], some [54, 45, 115, 105, 116], some [54, 49, 45, 102, 116, 117], some [56, 45, 102, 116, 117], some [56, 105, 111, 107], some [57, 108], some [97, 45, 115, 117], some [97, 99, 105, 103, 111, 108], some [98, 54, 49, 45, 102, 116, 117], some [98, 103], some [99], some [99, 105, 103, 111, 108], some [99, 105, 108, 108, 105, 114, 121, 99], some [99, 105, 110, 117], some [99, 115, 97, 45, 115, 117], some [100, 45, 114, 101, 115, 117, 45, 120], some [100, 101, 110, 105, 102, 101, 100, 45, 114, 101, 115, 117, 45, 120], some [100, 111, 99, 105, 110, 117], some [101, 98, 54, 49, 45, 102, 116, 117], some [101, 100, 45, 114, 101, 115, 117, 45, 120], some [101, 100, 111, 99, 105, 110, 117], some [101, 110, 105, 102, 101, 100, 45, 114, 101, 115, 117, 45, 120], some [101, 115, 117, 45, 120], some [102, 101, 100, 45, 114, 101, 115, 117, 45, 120], some [102, 116, 117], some [103], some [103, 111, 108], some [103, 117, 111, 110], some [104, 103, 117, 111, 110], some [105, 99, 115, 97, 45, 115, 117], some [105, 102, 101, 100, 45, 114, 101, 115, 117, 45, 120], some [105, 103, 111, 108], some [105, 105, 99, 115, 97, 45, 115, 117], some [105, 106, 115], some [105, 108, 108, 105, 114, 121, 99], some [105, 110, 117], some [105, 111, 107], some [105, 114, 121, 99], some [105, 116], some [106, 115], some [107], some [107, 98, 103], some [108], some [108, 97, 99, 105, 103, 111, 108], some [108, 105, 114, 121, 99], some [108, 108, 105, 114, 121, 99], some [110], some [110, 105, 102, 101, 100, 45, 114, 101, 115, 117, 45, 120], some [110, 117], some [111, 99, 105, 110, 117], some [111, 107], some [111, 108], some [111, 110], some [114, 45, 56, 105, 111, 107], some [114, 101, 115, 117, 45, 120], some [114, 121, 99], some [115], some [115, 97, 45, 115, 117], some [115, 105, 106, 115], some [115, 105, 116], some [115, 117], some [115, 117, 45, 120], some [116], some [116, 104, 103, 117, 111, 110], some [116, 117], some [117], some [117, 45, 120], some [117, 111, 110], some [120], some [120, 48, 50, 54, 45, 115, 105, 116], some [120, 54, 49, 45, 102, 116, 117], some [120, 56, 45, 102, 116, 117], some [120, 56, 105, 111, 107], some [120, 57, 108], some [120, 99, 105, 108, 108, 105, 114, 121, 99], some [120, 100, 101, 110, 105, 102, 101, 100, 45, 114, 101, 115, 117, 45, 120], some [120, 101, 98, 54, 49, 45, 102, 116, 117], some [120, 101, 100, 111, 99, 105, 110, 117], some [120, 105, 105, 99, 115, 97, 45, 115, 117], some [120, 105, 111, 107], some [120, 107, 98, 103], some [120, 108, 97, 99, 105, 103, 111, 108], some [120, 114, 45, 56, 105, 111, 107], some [120, 115, 105, 106, 115], some [120, 116, 104, 103, 117, 111, 110], some [121, 99]]
noncomputable def sO39 : List St := [none, some []]
noncomputable def sL39 : List St := [none, some [48, 50, 54, 45, 115, 105, 116], some [54, 49, 45, 102, 116, 117], some [56, 45, 102, 116, 117], some [56, 105, 111, 107], some [57, 108], some [99, 105, 108, 108, 105, 114, 121, 99], some [100, 101, 110, 105, 102, 101, 100, 45, 114, 101, 115, 117, 45, 120], some [101, 98, 54, 49, 45, 102, 116, 117], some [101, 100, 111, 99, 105, 110, 117], some [105, 105, 99, 115, 97, 45, 115, 117], some [105, 111, 107], some [107, 98, 103], some [108, 97, 99, 105, 103, 111, 108], some [114, 45, 56, 105, 111, 107], some [115, 105, 106, 115], some [116, 104, 103, 117, 111, 110]]
noncomputable def sC39 : List St := [none, some [], some [45, 56, 105, 111, 107], some [45, 102, 116, 117], some [45, 114, 101, 115, 117, 45, 120], some [45, 115, 105, 116], some [45, 115, 117], some [45, 120], some [46, 49], some [48, 46, 49], some [48, 50, 54, 45, 115, 105, 116], some [49], some [49, 45, 102, 116, 117], some [50, 54, 45, 115, 105, 116], some [54, 45, 115, 105, 116], some [54, 49, 45, 102, 116, 117], some [56, 45, 102, 116, 117], some [56, 105, 111, 107], some [57, 108], some [97, 45, 115, 117], some [97, 99, 105, 103, 111, 108], some [98, 54, 49, 45, 102, 116, 117], some [98, 103], some [99], some [99, 105, 103, 111, 108], some [99, 105, 108, 108, 105, 114, 121, 99], some [99, 105, 110, 117], some [99, 115, 97, 45, 115, 117], some [100, 45, 114, 101, 115, 117, 45, 120], some [100, 101, 110, 105, 102, 101, 100, 45, 114, 101, 115, 117, 45, 120], some [100, 111, 99, 105, 110, 117], some [101, 98, 54, 49, 45, 102, 116, 117], some [101, 100, 45, 114, 101, 115, 117, 45, 120], some [101, 100, 111, 99, 105, 110, 117], some [101, 110, 105, 102, 101, 100, 45, 114, 101, 115, 117, 45, 120], some [101, 115, 117, 45, 120], some [102, 101, 100, 45, 114, 101, 115, 117, 45, 120], some [102, 116, 117], some [103], some [103, 111, 108], some [103, 117, 111, 110], some [104, 103, 117, 111, 110], some [105, 99, 115, 97, 45, 115, 117], some [105, 102, 101, 100, 45, 114, 101, 115, 117, 45, 120], some [105, 103, 111, 108], some [105, 105, 99, 115, 97, 45, 115, 117], some [105, 106, 115], some [105, 108, 108, 105, 114, 121, 99], some [105, 110, 117], some [105, 111, 107], some [105, 114, 121, 99], some [105, 116], some [106, 115], some [107], some [107, 98, 103], some [108], some [108, 97, 99, 105, 103, 111, 108], some [108, 105, 114, 121, 99], some [108, 108, 105, 114, 121, 99], some [110], some [110, 105, 102, 101, 100, 45, 114, 101, 115, 117, 45, 120], some [110, 117], some [111, 99, 105, 110, 117], some [111, 107], some [111, 108], some [111, 110], some [114, 45, 56, 105, 111, 107], some [114, 101, 115, 117, 45, 120], some [114, 121, 99], some [115], some [115, 97, 45, 115, 117], some [115, 105, 106, 115], some [115, 105, 116], some [115, 117], some [115, 117, 45, 120], some [116], some [116, 104, 103, 117, 111, 110], some [116, 117], some [117], some [117, 45, 120], some [117, 111, 110], some [120], some [120, 48, 50, 54, 45, 115, 105, 116], some [120, 54, 49, 45, 102, 116, 117], some [120, 56, 45, 102, 116, 117], some [120, 56, 105, 111, 107], some [120, 57, 108], some [120, 99, 105, 108, 108, 105, 114, 121, 99], some [120, 100, 101, 110, 105, 102, 101, 100, 45, 114, 101, 115, 117, 45, 120], some [120, 101, 98, 54, 49, 45, 102, 116, 117], some [120, 101, 100, 111, 99, 105, 110, 117], some [120, 105, 105, 99, 115, 97, 45, 115, 117], some [120, 105, 111, 107], some [120, 107, 98, 103], some [120, 108, 97, 99, 105, 103, 111, 108], some [120, 114, 45, 56, 105, 111, 107], some [120, 115, 105, 106, 115], some [120, 116, 104, 103, 117, 111, 110], some [121, 99]]
noncomputable def sT39 : List St := [none, some [], some [45, 56, 105, 111, 107], some [45, 102, 116, 117], some [45, 114, 101, 115, 117, 45, 120], some [45, 115, 105, 116], some [45, 115, 117], some [45, 120], some [46, 49], some [48, 46, 49], some [48, 50, 54, 45, 115, 105, 116], some [49], some [49, 45, 102, 116, 117], some [50, 54, 45, 115, 105, 116], some [54, 45, 115, 105, 116], some [54, 49, 45, 102, 116, 117], some [56, 45, 102, 116, 117], some [56, 105, 111, 107], some [57, 108], some [97, 45, 115, 117], some [97, 99, 105, 103, 111, 108], some [98, 54, 49, 45, 102, 116, 117], some [98, 103], some [99], some [99, 105, 103, 111, 108], some [99, 105, 108, 108, 105, 114, 121, 99], some [99, 105, 110, 117], some [99, 115, 97, 45, 115, 117], some [100, 45, 114, 101, 115, 117, 45, 120], some [100, 101, 110, 105, 102, 101, 100, 45, 114, 101, 115, 117, 45, 120], some [100, 111, 99, 105, 110, 117], some [101, 98, 54, 49, 45, 102, 116, 117], some [101, 100, 45, 114, 101, 115, 117, 45, 120], some [101, 100, 111, 99, 105, 110, 117], some [101, 110, 105, 102, 101, 100, 45, 114, 101, 115, 117, 45, 120], some [101, 115, 117, 45, 120], some [102, 101, 100, 45, 114, 101, 115, 117, 45, 120], some [102, 116, 117], some [103], some [103, 111, 108], some [103, 117, 111, 110], some [104, 103, 117, 111, 110], some [105, 99, 115, 97, 45, 115, 117], some [105, 102, 101, 100, 45, 114, 101, 115, 117, 45, 120], some [105, 103, 111, 108], some [105, 105, 99, 115, 97, 45, 115, 117], some [105, 106, 115], some [105, 108, 108, 105, 114, 121, 99], some [105, 110, 117], some [105, 111, 107], some [105, 114, 121, 99], some [105, 116], some [106, 115], some [107], some [107, 98, 103], some [108], some [108, 97, 99, 105, 103, 111, 108], some [108, 105, 114, 121, 99], some [108, 108, 105, 114, 121, 99], some [110], some [110, 105, 102, 101, 100, 45, 114, 101, 115, 117, 45, 120], some [110, 117], some [111, 99, 105, 110, 117], some [111, 107], some [111, 108], some [111, 110], some [114, 45, 56, 105, 111, 107], some [114, 101, 115, 117, 45, 120], some [114, 121, 99], some [115], some [115, 97, 45, 115, 117], some [115, 105, 106, 115], some [115, 105, 116], some [115, 117], some [115, 117, 45, 120], some [116], some [116, 104, 103, 117, 111, 110], some [116, 117], some [117], some [117, 45, 120], some [117, 111, 110], some [120], some [120, 48, 50, 54, 45, 115, 105, 116], some [120, 54, 49, 45, 102, 116, 117], some [120, 56, 45, 102, 116, 117], some [120, 56, 105, 111, 107], some [120, 57, 108], some [120, 99, 105, 108, 108, 105, 114, 121, 99], some [120, 100, 101, 110, 105, 102, 101, 100, 45, 114, 101, 115, 117, 45, 120], some [120, 101, 98, 54, 49, 45, 102, 116, 117], some [120, 101, 100, 111, 99, 105, 110, 117], some [120, 105, 105, 99, 115, 97, 45, 115, 117], some [120, 105, 111, 107], some [120, 107, 98, 103], some [120, 108, 97, 99, 105, 103, 111, 108], some [120, 114, 45, 56, 105, 111, 107], some [120, 115, 105, 106, 115], some [120, 116, 104, 103, 117, 111, 110], some [121, 99]]
set_option profiler true in
theorem st34_1 : (stageQ sC34 pw 34 [none] xH [none] && stageQ sC34 pw 34 [none] xW [none] && stageQ sC34 pw 34 [none] xG [none] && stageQ sC34 pw 34 [none] xS [none] && stageQ sC34 pw 34 [none] xO sO34) = true := by decide +kernel
set_option profiler true in
theorem st34_2 : stageQ sC34 pw 34 sO34 xL sL34 = true := by decide +kernel
set_option profiler true in
theorem st34_3 : stageQ sC34 pw 34 sL34 xC sC34 = true := by decide +kernel
set_option profiler true in
theorem st34_4 : (sC34.all fun st => xT.all fun x => okQ pw 34 st x && sT34.contains (runQ 34 st x)) = true := by decide +kernel
set_option profiler true in
theorem st34_5 : (sT34.all fun st => xB.all fun x => okQ pw 34 st x) = true := by decide +kernel
set_option profiler true in
theorem st39_1 : (stageQ sC39 pw 39 [none] xH [none] && stageQ sC39 pw 39 [none] xW [none] && stageQ sC39 pw 39 [none] xG [none] && stageQ sC39 pw 39 [none] xS [none] && stageQ sC39 pw 39 [none] xO sO39) = true := by decide +kernel
set_option profiler true in
theorem st39_2 : stageQ sC39 pw 39 sO39 xL sL39 = true := by decide +kernel
set_option profiler true in
theorem st39_3 : stageQ sC39 pw 39 sL39 xC sC39 = true := by decide +kernel
set_option profiler true in
theorem st39_4 : (sC39.all fun st => xT.all fun x => okQ pw 39 st x && sT39.contains (runQ 39 st x)) = true := by decide +kernel
set_option profiler true in
theorem st39_5 : (sT39.all fun st => xB.all fun x => okQ pw 39 st x) = true := by decide +kernel

-- text Plain4c
noncomputable def labS : List Str := LAB.flatMap fun p => [p.1, Txt.upper p.1, mixF p.1]
theorem lab_len : ∀ p ∈ LAB, p.1.length ≤ 40 := by decide +kernel
theorem labS_len : ∀ y ∈ labS, y.length ≤ 40 := by decide +kernel
theorem cased_fact {lb y : Str} {nm : Option Str} {n : Int} (h : (lb, nm) ∈ LAB) (e : y = casedF lb n) : y ∈ labS ∧ y.length ≤ 40 := by
  have h2 : y ∈ labS := by
    refine List.mem_flatMap.mpr ⟨_, h, ?_⟩
    rw [e]; unfold casedF
    by_cases h1 : n = 1
    · rw [if_pos h1]; exact List.mem_cons_of_mem _ List.mem_cons_self
    · rw [if_neg h1]
      by_cases h2 : n = 2
      · rw [if_pos h2]; exact List.mem_cons_of_mem _ (List.mem_cons_of_mem _ List.mem_cons_self)
      · rw [if_neg h2]; exact List.mem_cons_self
  exact ⟨h2, labS_len y h2⟩
theorem cl_small {o : Str} (h : o.length ≤ 60) : ∀ y ∈ [o, o, Str.ofString " " ++ o, Str.ofString "!" ++ o, Str.ofString "\x00" ++ o, Str.ofString "", Str.ofString "'", Str.ofString "\""], y.length ≤ 62 := by
  have e1 : (Str.ofString " ").length = 1 := by decide +kernel
  have e2 : (Str.ofString "!").length = 1 := by decide +kernel
  have e3 : (Str.ofString "\x00").length = 1 := by decide +kernel
  have e4 : (Str.ofString "").length ≤ 1 := by decide +kernel
  have e5 : (Str.ofString "'").length ≤ 1 := by decide +kernel
  have e6 : (Str.ofString "\"").length ≤ 1 := by decide +kernel
  intro y hy
  simp only [List.mem_cons, List.not_mem_nil, or_false] at hy
  rcases hy with rfl | rfl | rfl | rfl | rfl | rfl | rfl | rfl
  all_goals (try rw [Str.length_append])
  all_goals omega
noncomputable abbrev sH : List Str := [Str.ofString "<?xml ", Str.ofString "<?xml version='1.0' ", Str.ofString "<?xml", Str.ofString "<?xml\x00\n", Str.ofString "<?xml encodin\tx ", Str.ofString "<?XML ", Str.ofString "<?xm", Str.ofString " <?xml "]
noncomputable abbrev sW : List Str := [Str.ofString "encoding", Str.ofString "encoding", Str.ofString "xencoding", Str.ofString "Encoding", Str.ofString "encodin", Str.ofString "encodingencoding", Str.ofString "encoding encoding"]
noncomputable abbrev sG : List Str := [Str.ofString "", Str.ofString " ", Str.ofString "\x00\x1f", Str.ofString "\t\x0d\n\x0c ", Str.ofString "!", Str.ofString "\x7f"]
noncomputable abbrev sS : List Str := [Str.ofString "=", Str.ofString "=", Str.ofString "==", Str.ofString ":", Str.ofString "", Str.ofString "=!"]
noncomputable abbrev sO : List Str := [Str.ofString "\"", Str.ofString "'", Str.ofString "", Str.ofString "x", Str.ofString "`"]
noncomputable abbrev sC (o : Str) : List Str := [o, o, Str.ofString " " ++ o, Str.ofString "!" ++ o, Str.ofString "\x00" ++ o, Str.ofString "", Str.ofString "'", Str.ofString "\""]
noncomputable abbrev sT : List Str := [Str.ofString "?>", Str.ofString ">", Str.ofString " a=''?>", Str.ofString "\">", Str.ofString "'>", Str.ofString "", Str.ofString "?"]
noncomputable abbrev sB : List Str := [Str.ofString "", Str.ofString "<p x=''>", Str.ofString "'>", Str.ofString "\">"]
noncomputable def cs (x : Str) : List Nat := x.cps.toList
theorem in_of {S : List Str} {X : List (List Nat)} (h : (S.all fun x => X.contains (cs x)) = true) {x : Str} (hx : x ∈ S) : cs x ∈ X := List.contains_iff_mem.mp (List.all_eq_true.mp h x hx)
theorem in_H : ∀ {x : Str}, x ∈ sH → cs x ∈ xH := in_of (by decide +kernel)
theorem in_W : ∀ {x : Str}, x ∈ sW → cs x ∈ xW := in_of (by decide +kernel)
theorem in_G : ∀ {x : Str}, x ∈ sG → cs x ∈ xG := in_of (by decide +kernel)
theorem in_S : ∀ {x : Str}, x ∈ sS → cs x ∈ xS := in_of (by decide +kernel)
theorem in_O : ∀ {x : Str}, x ∈ sO → cs x ∈ xO := in_of (by decide +kernel)
theorem in_L : ∀ {x : Str}, x ∈ labS → cs x ∈ xL := in_of (by decide +kernel)
theorem in_T : ∀ {x : Str}, x ∈ sT → cs x ∈ xT := in_of (by decide +kernel)
theorem in_B : ∀ {x : Str}, x ∈ sB → cs x ∈ xB := in_of (by decide +kernel)
theorem in_C {o x : Str} (ho : o ∈ sO) (hx : x ∈ sC o) : cs x ∈ xC :=
  in_of (S := sO.flatMap sC) (by decide +kernel) (List.mem_flatMap.mpr ⟨o, ho, hx⟩)
/-- short, and every sign below 256 -/
noncomputable def tame (x : List Nat) : Bool := Nat.ble x.length 60 && x.all fun c => Nat.blt c 256
theorem tm_H : xH.all tame = true := by decide +kernel
theorem tm_W : xW.all tame = true := by decide +kernel
theorem tm_G : xG.all tame = true := by decide +kernel
theorem tm_S : xS.all tame = true := by decide +kernel
theorem tm_O : xO.all tame = true := by decide +kernel
theorem tm_L : xL.all tame = true := by decide +kernel
theorem tm_C : xC.all tame = true := by decide +kernel
theorem tm_T : xT.all tame = true := by decide +kernel
theorem tm_B : xB.all tame = true := by decide +kernel
theorem tame_is {x : List Nat} {X : List (List Nat)} (h : X.all tame = true) (hx : x ∈ X) : x.length ≤ 60 ∧ ∀ c ∈ x, c < 256 := by
  have := List.all_eq_true.mp h x hx
  simp only [tame, Bool.and_eq_true] at this
  refine ⟨Nat.le_of_ble_eq_true this.1, fun c hc => ?_⟩
  have h2 := List.all_eq_true.mp this.2 c hc
  simpa [Nat.blt_eq] using h2
/-- what is asked of the text -/
noncomputable def OkAll (l : List Nat) : Prop := okQ pw 34 none l = true ∧ okQ pw 39 none l = true
theorem base_pre {C : List St} {q : Nat} {sOq sLq : List St} (h1 : (stageQ C pw q [none] xH [none] && stageQ C pw q [none] xW [none] && stageQ C pw q [none] xG [none] && stageQ C pw q [none] xS [none] && stageQ C pw q [none] xO sOq) = true)
    (h2 : stageQ C pw q sOq xL sLq = true) (h3 : stageQ C pw q sLq xC C = true) {a b c d e f g h : List Nat} (ha : a ∈ xH) (hb : b ∈ xW) (hc : c ∈ xG) (hd : d ∈ xS) (he : e ∈ xG) (hf : f ∈ xO) (hg : g ∈ xL) (hh : h ∈ xC) :
    preQ C pw q none (a ++ (b ++ (c ++ (d ++ (e ++ (f ++ (g ++ h))))))) = true := by
  simp only [Bool.and_eq_true] at h1
  obtain ⟨⟨⟨⟨i1, i2⟩, i3⟩, i4⟩, i5⟩ := h1
  have n0 : (none : St) ∈ [none] := List.mem_cons_self
  have k1 := stage_app i1 n0 ha
  have e1 := List.mem_singleton.mp k1.2
  have k2 := stage_app i2 n0 hb
  have e2 := List.mem_singleton.mp k2.2
  have k3 := stage_app i3 n0 hc
  have e3 := List.mem_singleton.mp k3.2
  have k4 := stage_app i4 n0 hd
  have e4 := List.mem_singleton.mp k4.2
  have k5 := stage_app i3 n0 he
  have e5 := List.mem_singleton.mp k5.2
  have k6 := stage_app i5 n0 hf
  have k7 := stage_app h2 k6.2 hg
  have k8 := stage_app h3 k7.2 hh
  refine pre_app k1.1 ?_
  rw [e1]
  refine pre_app k2.1 ?_
  rw [e2]
  refine pre_app k3.1 ?_
  rw [e3]
  refine pre_app k4.1 ?_
  rw [e4]
  refine pre_app k5.1 ?_
  rw [e5]
  refine pre_app k6.1 (pre_app k7.1 k8.1)
theorem whole_ok {C T : List St} {q : Nat} (h4 : (C.all fun st => xT.all fun x => okQ pw q st x && T.contains (runQ q st x)) = true) (h5 : (T.all fun st => xB.all fun x => okQ pw q st x) = true) {l t b : List Nat} (n : Nat) (h : preQ C pw q none l = true) (ht : t ∈ xT) (hb : b ∈ xB) :
    okQ pw q none (l.take n ++ (t ++ b)) = true := by
  obtain ⟨k1, k2⟩ := pre_take n h
  have j := List.all_eq_true.mp (List.all_eq_true.mp h4 _ k2) t ht
  simp only [Bool.and_eq_true] at j
  have j2 := List.all_eq_true.mp (List.all_eq_true.mp h5 _ (List.contains_iff_mem.mp j.2)) b hb
  exact ok_app.mpr ⟨k1, ok_app.mpr ⟨j.1, j2⟩⟩
theorem text_ok {a b c d e f g h t z : List Nat} (n : Nat) (ha : a ∈ xH) (hb : b ∈ xW) (hc : c ∈ xG) (hd : d ∈ xS) (he : e ∈ xG) (hf : f ∈ xO) (hg : g ∈ xL) (hh : h ∈ xC) (ht : t ∈ xT) (hz : z ∈ xB) :
    OkAll ((a ++ (b ++ (c ++ (d ++ (e ++ (f ++ (g ++ h))))))).take n ++ (t ++ z)) :=
  ⟨whole_ok st34_4 st34_5 n (base_pre st34_1 st34_2 st34_3 ha hb hc hd he hf hg hh) ht hz, whole_ok st39_4 st39_5 n (base_pre st39_1 st39_2 st39_3 ha hb hc hd he hf hg hh) ht hz⟩
theorem text_tame {a b c d e f g h t z : List Nat} (n : Nat) (ha : a ∈ xH) (hb : b ∈ xW) (hc : c ∈ xG) (hd : d ∈ xS) (he : e ∈ xG) (hf : f ∈ xO) (hg : g ∈ xL) (hh : h ∈ xC) (ht : t ∈ xT) (hz : z ∈ xB) :
    ((a ++ (b ++ (c ++ (d ++ (e ++ (f ++ (g ++ h))))))).take n ++ (t ++ z)).length ≤ 900 ∧ ∀ k ∈ (a ++ (b ++ (c ++ (d ++ (e ++ (f ++ (g ++ h))))))).take n ++ (t ++ z), k < 256 := by
  have a1 := tame_is tm_H ha
  have a2 := tame_is tm_W hb
  have a3 := tame_is tm_G hc
  have a4 := tame_is tm_S hd
  have a5 := tame_is tm_G he
  have a6 := tame_is tm_O hf
  have a7 := tame_is tm_L hg
  have a8 := tame_is tm_C hh
  have a9 := tame_is tm_T ht
  have a10 := tame_is tm_B hz
  refine ⟨?_, fun k hk => ?_⟩
  · simp only [List.length_append, List.length_take]
    omega
  · rcases List.mem_append.mp hk with hk | hk
    · have hk := List.mem_of_mem_take hk
      simp only [List.mem_append] at hk
      rcases hk with hk | hk | hk | hk | hk | hk | hk | hk
      · exact a1.2 k hk
      · exact a2.2 k hk
      · exact a3.2 k hk
      · exact a4.2 k hk
      · exact a5.2 k hk
      · exact a6.2 k hk
      · exact a7.2 k hk
      · exact a8.2 k hk
    · rcases List.mem_append.mp hk with hk | hk
      · exact a9.2 k hk
      · exact a10.2 k hk
/-- the text that the law builds -/
noncomputable def GoodText (y : Str) : Prop := y.length ≤ 900 ∧ (∀ k ∈ codes y, 0 ≤ k ∧ k < 256) ∧ OkAll (cs y)
theorem good_of {y : Str} {l : List Nat} (e : cs y = l) (h : l.length ≤ 900 ∧ ∀ k ∈ l, k < 256) (h2 : OkAll l) : GoodText y := by
  subst e
  refine ⟨?_, ?_, h2⟩
  · rw [← cps_len]; exact h.1
  · intro k hk
    obtain ⟨c, hc, rfl⟩ := List.mem_map.mp hk
    have := h.2 c hc
    omega
theorem cs_app (x y : Str) : cs (x ++ y) = cs x ++ cs y := by
  show (x ++ y).cps.toList = _
  rw [Str.cps_append, Array.toList_append]; rfl
theorem cs_slice (x : Str) {j : Int} (h : 0 ≤ j) : cs (Txt.slice x none (some j)) = (cs x).take j.toNat := by
  have e := slice_to x h
  unfold codes at e
  rw [← List.map_take] at e
  exact List.map_inj_right (f := fun c : Nat => (c : Int)) (fun _ _ e => Int.ofNat_inj.mp e) |>.mp e
section
variable {a b c d e f g h t z : Str}
theorem leaf_cut {j : Int} (h0 : 0 ≤ j) (ha : a ∈ sH) (hb : b ∈ sW) (hc : c ∈ sG) (hd : d ∈ sS) (he : e ∈ sG) (hf : f ∈ sO) (hg : g ∈ labS) (hh : h ∈ sC f) (ht : t ∈ sT) (hz : z ∈ sB) :
    GoodText (Txt.slice (a ++ b ++ c ++ d ++ e ++ f ++ g ++ h) none (some j) ++ t ++ z) := by
  refine good_of (l := (cs a ++ (cs b ++ (cs c ++ (cs d ++ (cs e ++ (cs f ++ (cs g ++ cs h))))))).take j.toNat ++ (cs t ++ cs z)) ?_ ?_ ?_
  · rw [cs_app, cs_app, cs_slice _ h0]
    simp only [cs_app, List.append_assoc]
  · exact text_tame _ (in_H ha) (in_W hb) (in_G hc) (in_S hd) (in_G he) (in_O hf) (in_L hg) (in_C hf hh) (in_T ht) (in_B hz)
  · exact text_ok _ (in_H ha) (in_W hb) (in_G hc) (in_S hd) (in_G he) (in_O hf) (in_L hg) (in_C hf hh) (in_T ht) (in_B hz)
theorem leaf_all (ha : a ∈ sH) (hb : b ∈ sW) (hc : c ∈ sG) (hd : d ∈ sS) (he : e ∈ sG) (hf : f ∈ sO) (hg : g ∈ labS) (hh : h ∈ sC f) (ht : t ∈ sT) (hz : z ∈ sB) :
    GoodText (a ++ b ++ c ++ d ++ e ++ f ++ g ++ h ++ t ++ z) := by
  refine good_of (l := (cs a ++ (cs b ++ (cs c ++ (cs d ++ (cs e ++ (cs f ++ (cs g ++ cs h))))))).take (cs a ++ (cs b ++ (cs c ++ (cs d ++ (cs e ++ (cs f ++ (cs g ++ cs h))))))).length ++ (cs t ++ cs z)) ?_ ?_ ?_
  · rw [List.take_length]
    simp only [cs_app, List.append_assoc]
  · exact text_tame _ (in_H ha) (in_W hb) (in_G hc) (in_S hd) (in_G he) (in_O hf) (in_L hg) (in_C hf hh) (in_T ht) (in_B hz)
  · exact text_ok _ (in_H ha) (in_W hb) (in_G hc) (in_S hd) (in_G he) (in_O hf) (in_L hg) (in_C hf hh) (in_T ht) (in_B hz)
end

-- text C15
section
variable {prog : Program} {w : World} {A : Around} {E : Value → Shared → Prop} {s : Shared} {h₀ : Heap} {L l : Addr} {m : Str → Option Value} {news : List (Addr × Obj)} {t u : Tok} {Q : Value → Shared → Prop} {value slice : Expr}
theorem fm_lo (a : Int) {b : Int} (h : 0 < b) : 0 ≤ a.fmod b := Int.fmod_nonneg_of_pos a h
theorem fm_hi (a : Int) {b : Int} (h : 0 < b) : a.fmod b < b := Int.fmod_lt_of_pos a h
theorem my_pick {vs : List Value} {ys : List Str} {k : Nat} {i : Int} {ti : Tok} (B : Nat) (N : News h₀ L s.heap news) (hm : (l, listOf vs.toArray k) ∈ news) (hS : StrsAre vs ys) (h0 : 0 ≤ i) (h1 : i < (ys.length : Int)) (hfit : i < 2 ^ 63) (hB : ∀ y ∈ ys, y.length ≤ B)
    (h : ∀ x t', x ∈ ys → x.length ≤ B → Q (.str x t') s)
    (hs : subscripted slice false (.ref l) (.int i ti) = operate [.ref l, .int i ti] (getItem (.ref l) (.int i ti)) := by with_unfolding_all rfl) :
    wpAny (model prog w) A (subscriptTail value slice (.ref l) (.int i ti)) Q E s := by
  refine KTb.item_list (News.isList N hm) hS h0 h1 hfit (fun t' hl => ?_) hs
  have e : ys.getD i.toNat PySem.Str.empty ∈ ys := by
    rw [List.getD_eq_getElem?_getD, List.getElem?_eq_getElem hl]
    exact List.getElem_mem hl
  exact h _ t' e (hB _ e)
theorem my_pickP {vs : List Value} {r : List (Str × Option Str)} {own : List (Addr × Obj)} {k : Nat} {i : Int} {ti : Tok} (N : News h₀ L s.heap ((l, listOf vs.toArray k) :: (own ++ news))) (hS : PairsAre own vs r) (hl : vs.length = r.length) (h0 : 0 ≤ i) (h1 : i < (r.length : Int)) (hfit : i < 2 ^ 63)
    (h : ∀ a lb nm t t', (lb, nm) ∈ r → (a, ({ cls := .type "tuple", data := .seq #[.str lb t, optV nm t'] } : Obj)) ∈ own → Q (.ref a) s)
    (hs : subscripted slice false (.ref l) (.int i ti) = operate [.ref l, .int i ti] (getItem (.ref l) (.int i ti)) := by with_unfolding_all rfl) :
    wpAny (model prog w) A (subscriptTail value slice (.ref l) (.int i ti)) Q E s := by
  have hlt : i.toNat < vs.length := by omega
  obtain ⟨a, lb, nm, t1, t2, e1, e2, e3⟩ := pairs_get hS (List.getElem?_eq_getElem hlt)
  have hL := News.isList N (.head _)
  refine tail_any hL.typeIs slot_list_getitem.lookup (wpAny_getItem_list hL h0 hfit (x := .ref a) ?_ (h a lb nm t1 t2 (List.mem_of_getElem? e1) e3)) hs
  simpa [List.getElem?_eq_getElem hlt] using e2
theorem my_zero {lb : Str} {v : Value} {o : Obj} {own : List (Addr × Obj)} {d : Addr} {t : Tok} {ti : Tok} (N : News h₀ L s.heap ((d, o) :: (own ++ news))) (hm : (l, ({ cls := .type "tuple", data := .seq #[.str lb t, v] } : Obj)) ∈ own)
    (h : News h₀ L s.heap news → Q (.str lb t) s)
    (hs : subscripted slice false (.ref l) (.int 0 ti) = operate [.ref l, .int 0 ti] (getItem (.ref l) (.int 0 ti)) := by with_unfolding_all rfl) :
    wpAny (model prog w) A (subscriptTail value slice (.ref l) (.int 0 ti)) Q E s := by
  have ht : IsTup s.heap l #[.str lb t, v] := News.isTup N (List.mem_cons_of_mem _ (List.mem_append_left _ hm))
  exact tail_any ht.typeIs slot_tuple_getitem.lookup (PyProof.Rows.getItem_tuple ht (by decide) (by decide) (seqIndex_of (by decide) (by show (0:Int) < ((2:Nat):Int); decide)) (x := .str lb t) rfl (h fun p hp => N p (List.mem_cons_of_mem _ (List.mem_append_right _ hp)))) hs
theorem my_pickM {vs : List Value} {ys : List Str} {k : Nat} {a b : Int} {ti : Tok} (B : Nat) (N : News h₀ L s.heap news) (hm : (l, listOf vs.toArray k) ∈ news) (hS : StrsAre vs ys) (h0 : 0 < b) (h1 : b ≤ (ys.length : Int)) (h2 : b ≤ 1000) (hB : ∀ y ∈ ys, y.length ≤ B)
    (h : ∀ x t', x ∈ ys → x.length ≤ B → Q (.str x t') s)
    (hs : subscripted slice false (.ref l) (.int (a.fmod b) ti) = operate [.ref l, .int (a.fmod b) ti] (getItem (.ref l) (.int (a.fmod b) ti)) := by with_unfolding_all rfl) :
    wpAny (model prog w) A (subscriptTail value slice (.ref l) (.int (a.fmod b) ti)) Q E s :=
  my_pick B N hm hS (fm_lo a h0) (Int.lt_of_lt_of_le (fm_hi a h0) h1) (by have := fm_hi a h0; omega) hB h hs
theorem my_pickPM {vs : List Value} {r : List (Str × Option Str)} {own : List (Addr × Obj)} {k : Nat} {a b : Int} {ti : Tok} (N : News h₀ L s.heap ((l, listOf vs.toArray k) :: (own ++ news))) (hS : PairsAre own vs r) (hl : vs.length = r.length) (h0 : 0 < b) (h1 : b ≤ (r.length : Int)) (h2 : b ≤ 1000)
    (h : ∀ a lb nm t t', (lb, nm) ∈ r → (a, ({ cls := .type "tuple", data := .seq #[.str lb t, optV nm t'] } : Obj)) ∈ own → Q (.ref a) s)
    (hs : subscripted slice false (.ref l) (.int (a.fmod b) ti) = operate [.ref l, .int (a.fmod b) ti] (getItem (.ref l) (.int (a.fmod b) ti)) := by with_unfolding_all rfl) :
    wpAny (model prog w) A (subscriptTail value slice (.ref l) (.int (a.fmod b) ti)) Q E s :=
  my_pickP N hS hl (fm_lo a h0) (Int.lt_of_lt_of_le (fm_hi a h0) h1) (by have := fm_hi a h0; omega) h hs
theorem my_num {vs : List Value} {i : Int} {v : Value} {ti : Tok} (N : News h₀ L s.heap news) (hm : (l, LCg.lst vs) ∈ news) (h0 : 0 ≤ i) (hfit : i < 2 ^ 63) (hv : vs[i.toNat]? = some v) (h : Q v s)
    (hs : subscripted slice false (.ref l) (.int i ti) = operate [.ref l, .int i ti] (getItem (.ref l) (.int i ti)) := by with_unfolding_all rfl) :
    wpAny (model prog w) A (subscriptTail value slice (.ref l) (.int i ti)) Q E s := by
  have hL := News.isList N hm
  exact tail_any hL.typeIs slot_list_getitem.lookup (wpAny_getItem_list hL h0 hfit (x := v) (by simpa using hv) h) hs
theorem addB {x y : Str} {a b : Nat} {u : Tok} (hx : x.length ≤ a) (hy : y.length ≤ b) (hs : a + b ≤ 16777216) (h : ∀ t' k, (x ++ y).length ≤ a + b → Q (.str (x ++ y) t') { s with toks := k }) : wpAny (model prog w) A (binaryOp .Add (.str x t) (.str y u)) Q E s :=
  KXadd.add hx hy hs fun t' k hl => h t' k (Nat.le_trans hl.2 (Nat.add_le_add hx hy))
/-- a new list of texts, its values hidden -/
theorem newStrs {vs : List Value} {ys : List Str} (hS : StrsAre vs ys) (F : Fr h₀ L s.heap m) (N : News h₀ L s.heap news)
    (h : ∀ (us : List Value) l h', StrsAre us ys → Fr h₀ L h' m → News h₀ L h' ((l, listOf us.toArray 0) :: news) → Q (.ref l) { s with heap := h' }) (hsz : vs.length ≤ sizeLine) : wpAny (model prog w) A (newList vs) Q E s :=
  newList_K F N (fun l h' F' N' _ => h vs l h' hS F' N') hsz
theorem my_pickT {vs : List Value} {ys : List Str} {k : Nat} {a b : Int} {ti : Tok} (B : Nat) (N : News h₀ L s.heap ((l, listOf vs.toArray k) :: news)) (hS : StrsAre vs ys) (h0 : 0 < b) (h1 : b ≤ (ys.length : Int)) (h2 : b ≤ 1000) (hB : ∀ y ∈ ys, y.length ≤ B)
    (h : News h₀ L s.heap news → ∀ x t', x ∈ ys → x.length ≤ B → Q (.str x t') s)
    (hs : subscripted slice false (.ref l) (.int (a.fmod b) ti) = operate [.ref l, .int (a.fmod b) ti] (getItem (.ref l) (.int (a.fmod b) ti)) := by with_unfolding_all rfl) :
    wpAny (model prog w) A (subscriptTail value slice (.ref l) (.int (a.fmod b) ti)) Q E s :=
  my_pickM B N (.head _) hS h0 h1 h2 hB (h fun p hp => N p (.tail _ hp)) hs
end
theorem memHead {a : Addr} {o o' : Obj} {l : List (Addr × Obj)} (h : o = o') : (a, o) ∈ (a, o') :: l := h ▸ .head _
theorem memTail {p x : Addr × Obj} {l : List (Addr × Obj)} (h : p ∈ l) : p ∈ x :: l := .tail _ h
theorem memApp {p : Addr × Obj} {o l : List (Addr × Obj)} (h : p ∈ l) : p ∈ o ++ l := List.mem_append_right _ h
theorem kw24 : True := by
  k_with "MEM" => ((repeat (first | (with_reducible refine memHead ?_) | (with_reducible refine memTail ?_) | (with_reducible refine memApp ?_))); first | (k_dflt (exact rfl)) | (with_reducible assumption))
  k_with "subscriptTail Name Constant ref int" => (k_here; refine my_num (by k_asm) (by walk_at "MEM") (by decide) (by decide) (by exact rfl) ?_; (try k_fold))
  k_with "LEN" => (first | (with_reducible assumption) | exact (show (Str.ofString _).length ≤ 10 by decide +kernel) | exact Nat.le_trans (by with_reducible assumption) (by with_reducible assumption))
  k_with "binaryOp Add str str" => (k_here; (with_reducible show wpAny _ _ (binaryOp Operator.Add (Value.str _ _) (Value.str _ _)) _ _ _); (refine addB (by walk_at "LEN") (by walk_at "LEN") (by decide) ?_); intro t' k' hB')
  k_with "newList" => (k_here; k_dflt ((refine newStrs (by repeat constructor) (by k_asm) (by k_asm) ?_ (by size_fits)); intro us' l' h' hS' F' N'; (try k_sweep); (try k_fold)))
  k_with "subscriptTail Name BinOp ref int" => (k_here; (with_reducible show wpAny _ _ (subscriptTail _ _ (Value.ref _) (Value.int (Int.fmod _ _) _)) _ _ _); k_dflt ((refine my_pickM 60 (by k_asm) (by walk_at "MEM") (by assumption) (by decide) (by decide +kernel) (by decide) (by decide +kernel) ?_); intro x' t' hx' hB'; (try k_fold)))
  k_with "subscriptTail" => (k_here; (with_reducible show wpAny _ _ (subscriptTail (Expr.Name _ _) _ (Value.ref _) (Value.int (Int.fmod _ _) _)) _ _ _); k_dflt ((refine my_pickM 60 (by k_asm) (by walk_at "MEM") (by assumption) (by decide) (by decide +kernel) (by decide) (by decide +kernel) ?_); intro x' t' hx' hB'; (try k_fold)))
  k_with "subscriptTail Name BinOp ref int" => (k_here; (with_reducible show wpAny _ _ (subscriptTail _ _ (Value.ref _) (Value.int (Int.fmod (Int.fdiv _ _) 8) _)) _ _ _); k_dflt ((refine my_pickM 62 (by k_asm) (by walk_at "MEM") (by assumption) (by decide) (by exact Int.le_refl 8) (by decide) (cl_small (by assumption)) ?_); intro x' t' hx' hB'; (try k_fold)))
  k_with "subscriptTail" => (k_here; (with_reducible show wpAny _ _ (subscriptTail (Expr.Name _ _) _ (Value.ref _) (Value.int (Int.fmod (Int.fdiv _ _) 8) _)) _ _ _); k_dflt ((refine my_pickM 62 (by k_asm) (by walk_at "MEM") (by assumption) (by decide) (by exact Int.le_refl 8) (by decide) (cl_small (by assumption)) ?_); intro x' t' hx' hB'; (try k_fold)))
  k_with "subscriptTail List BinOp ref int" => (k_here; (with_reducible show wpAny _ _ (subscriptTail _ _ (Value.ref _) (Value.int (Int.fmod _ _) _)) _ _ _); k_dflt ((refine my_pickT 60 (by k_asm) (by assumption) (by decide) (by decide +kernel) (by decide) (by decide +kernel) ?_); intro N' x' t' hx' hB'; (try k_sweep); (try k_fold)))
  k_with "subscriptTail" => (k_here; (with_reducible show wpAny _ _ (subscriptTail (Expr.List _ _) _ (Value.ref _) (Value.int (Int.fmod _ _) _)) _ _ _); k_dflt ((refine my_pickT 60 (by k_asm) (by assumption) (by decide) (by decide +kernel) (by decide) (by decide +kernel) ?_); intro N' x' t' hx' hB'; (try k_sweep); (try k_fold)))
  k_with "subscriptTail Call BinOp ref int" => (k_here; (with_reducible show wpAny _ _ (subscriptTail _ _ (Value.ref _) (Value.int (Int.fmod _ 13) _)) _ _ _); k_dflt ((refine my_pickPM (r := LAB) (by k_asm) (by assumption) (by assumption) (by decide) (by decide +kernel) (by decide) ?_); intro a' lb' nm' t' t'' hx' hm'; (try k_fold)))
  k_with "subscriptTail" => (k_here; (with_reducible show wpAny _ _ (subscriptTail (Expr.Call _ _ _ _) _ (Value.ref _) (Value.int (Int.fmod _ 13) _)) _ _ _); k_dflt ((refine my_pickPM (r := LAB) (by k_asm) (by assumption) (by assumption) (by decide) (by decide +kernel) (by decide) ?_); intro a' lb' nm' t' t'' hx' hm'; (try k_fold)))
  k_with "subscriptTail" => (k_here; (with_reducible show wpAny _ _ (subscriptTail _ _ (Value.ref _) (Value.int 0 _)) _ _ _); refine my_zero (by k_asm) (by assumption) ?_; intro N'; (try k_sweep); (try k_fold))
  k_with "call ref" => (k_here; (refine' useCt0 (cased_c _ _ _ _ _) (by k_asm) (by k_asm) (by k_asm) (by k_asm) (by k_asm) (by exact rfl) (by ktr_room) (by ktr_units) (by exact lab_len _ (by assumption)) ?_); intro x' t' h' tk' g' F' N'; have hq' := cased_fact (by assumption) g'; obtain ⟨hx', hB'⟩ := hq'; clear g'; (try dsimp only); (try k_sweep); (try k_fold))
  k_with "RASM" => (with_reducible assumption)
  trivial

theorem text_c (w : World) (D : Addr) (n0 n1 n2 n3 n4 : Int) (t0 t1 t2 t3 t4 : Tok) : CtL w 20 122 [(D, LCg.lst [.int n0 t0, .int n1 t1, .int n2 t2, .int n3 t3, .int n4 t4])] True [.ref D] GoodText (fun y t => .str y t) := by
  walk_at "BEGIN"; intro mean mg mb news dp un gd cn cs a ccd cl outer A₀ base h₀ L m s Q E B F X N T hk hd hu hp hret
  walk_at "ENTER"
  k_steps
  · exact retCt hret _ (by walk_at "RASM") (by walk_at "RASM") (by intro p hp; simp only [List.mem_cons, List.mem_append, hp, true_or, or_true]) (leaf_cut (fm_lo _ (by omega)) (by walk_at "RASM") (by walk_at "RASM") (by walk_at "RASM") (by walk_at "RASM") (by walk_at "RASM") (by walk_at "RASM") (by walk_at "RASM") (by walk_at "RASM") (by walk_at "RASM") (by walk_at "RASM"))
  · exact retCt hret _ (by walk_at "RASM") (by walk_at "RASM") (by intro p hp; simp only [List.mem_cons, List.mem_append, hp, true_or, or_true]) (leaf_all (by walk_at "RASM") (by walk_at "RASM") (by walk_at "RASM") (by walk_at "RASM") (by walk_at "RASM") (by walk_at "RASM") (by walk_at "RASM") (by walk_at "RASM") (by walk_at "RASM") (by walk_at "RASM"))

-- text Plain4d
noncomputable def eqL : List Nat → List Nat → Bool
  | [], [] => true
  | a :: l, b :: m => Nat.beq a b && eqL l m
  | _, _ => false
theorem eqL_iff : ∀ {a b : List Nat}, eqL a b = true ↔ a = b
  | [], [] => by simp [eqL]
  | [], _ :: _ => by simp [eqL]
  | _ :: _, [] => by simp [eqL]
  | a :: l, b :: m => by
    simp only [eqL, Bool.and_eq_true, List.cons.injEq, eqL_iff]
    exact ⟨fun h => ⟨Nat.eq_of_beq_eq_true h.1, h.2⟩, fun h => ⟨by rw [h.1]; exact Nat.beq_refl _, h.2⟩⟩
theorem cs_inj {x y : Str} (h : cs x = cs y) : x = y := Str.ext' (Array.toList_inj.mp h)
theorem str_beq (x y : Str) : (x == y) = eqL (cs x) (cs y) := by
  rw [Bool.eq_iff_iff, beq_iff_eq, eqL_iff]
  exact ⟨fun h => by rw [h], cs_inj⟩
noncomputable def encR (w : List Nat) : List Str → Option Str
  | p :: rest => if rest.any (fun y => eqL (cs y) w) = true then some p else none
  | [] => none
theorem encF_rows (w : Str) : encF w = rowsW.findSome? (encR (cs w)) := by
  rw [← rows_split, List.findSome?_map]
  unfold encF
  congr 1
  funext r
  show encRow w r = encR (cs w) (Txt.split r (Str.ofString " "))
  unfold encRow encR
  cases Txt.split r (Str.ofString " ") with
  | nil => rfl
  | cons p rest => simp only [str_beq]
noncomputable def lawR (w : List Nat) : Option Str := (LAB.findSome? fun p => if eqL (cs p.1) w = true then some (fixL p.2) else none).getD none
theorem lawF_rows (w : Str) : lawF w = lawR (cs w) := by
  unfold lawF lawR lawPick
  simp only [str_beq]
theorem pw_ok : (pw.all fun v => fix16 (rowsW.findSome? (encR v.reverse)) == lawR v.reverse) = true := by decide +kernel
theorem rows_free : (rowsW.all fun r => r.all fun y => (cs y).all fun c => !bad c) = true := by decide +kernel
theorem lab_free : (LAB.all fun p => (cs p.1).all fun c => !bad c) = true := by decide +kernel
theorem bad_low {k : Nat} (h : bad k = true) : lowN k = k := by
  have e : k ≤ 32 ∨ k ∈ [33, 34, 39, 60, 62, 63, 96] := by
    unfold bad at h
    rw [Bool.or_eq_true] at h
    rcases h with h | h
    · exact .inl (Nat.le_of_ble_eq_true h)
    · exact .inr (List.contains_iff_mem.mp h)
  simp only [List.mem_cons, List.not_mem_nil, or_false] at e
  unfold lowN
  rw [if_neg (by omega)]
theorem enc_bad {w : List Nat} {k : Nat} (hk : k ∈ w) (hb : bad k = true) : rowsW.findSome? (encR w) = none := by
  rw [List.findSome?_eq_none_iff]
  intro row hrow
  have h1 := List.all_eq_true.mp rows_free row hrow
  cases row with
  | nil => rfl
  | cons p rest =>
    show (if _ then _ else _) = none
    rw [if_neg]
    intro h
    obtain ⟨y, hy, e⟩ := List.any_eq_true.mp h
    have h2 := List.all_eq_true.mp h1 y (List.mem_cons_of_mem _ hy)
    rw [eqL_iff.mp e] at h2
    have h3 := List.all_eq_true.mp h2 k hk
    rw [hb] at h3
    exact absurd h3 (by decide)
theorem law_bad {w : List Nat} {k : Nat} (hk : k ∈ w) (hb : bad k = true) : lawR w = none := by
  have : (LAB.findSome? fun p => if eqL (cs p.1) w = true then some (fixL p.2) else none) = none := by
    rw [List.findSome?_eq_none_iff]
    intro p hp
    have h2 := List.all_eq_true.mp lab_free p hp
    rw [if_neg]
    intro e
    rw [eqL_iff.mp e] at h2
    have h3 := List.all_eq_true.mp h2 k hk
    rw [hb] at h3
    exact absurd h3 (by decide)
  unfold lawR
  rw [this]; rfl
theorem low_low (k : Nat) : lowN (lowN k) = lowN k := by
  by_cases h : 65 ≤ k ∧ k ≤ 90
  · unfold lowN
    rw [if_pos h, if_neg (by omega)]
  · have e : lowN k = k := if_neg h
    rw [e, e]
theorem low_mk (l : List Nat) : lowText (mkT l) = mkT (l.map lowN) := rfl
theorem txt_nat (ns : List Nat) : KStt.txt (ns.map fun (n : Nat) => (n : Int)) = mkT ns := by
  unfold KStt.txt mkT
  rw [List.map_map]
  congr 2
  exact (List.map_congr_left (g := fun n => n) fun n _ => rfl).trans (List.map_id' _)
theorem encN_nat (ns : List Nat) : encN (ns.map fun (n : Nat) => (n : Int)) = fix16 (rowsW.findSome? (encR (ns.map lowN))) := by
  unfold encN
  rw [txt_nat, low_mk, low_mk, encF_rows, List.map_map]
  congr 2
  show encR (List.map _ ns) = _
  congr 1
  exact List.map_congr_left fun k _ => low_low k
theorem lawN_nat (ns : List Nat) : lawN (ns.map fun (n : Nat) => (n : Int)) = lawR (ns.map lowN) := by
  unfold lawN
  rw [txt_nat, low_mk, lawF_rows]
  rfl
/-- the plain law: both sides name the same -/
theorem good_law {y : Str} (h : GoodText y) : (cutName (codes y)).bind encN = (cutName (codes y)).bind lawN := by
  cases hc : cutName (codes y) with
  | none => rfl
  | some ws =>
    obtain ⟨p, q, ns, r, hq, eN, n1, n2, rfl⟩ := cut_nat (N := cs y) hc
    show encN _ = lawN _
    rw [encN_nat, lawN_nat]
    by_cases hb : ∀ k ∈ ns, bad k = false
    · have hm : (ns.map lowN).reverse ∈ pw := by
        obtain ⟨_, _, h34, h39⟩ := h
        rw [eN] at h34 h39
        rcases hq with rfl | rfl
        · exact ok_word h34 n1 hb
        · exact ok_word h39 n1 hb
      have e := List.all_eq_true.mp pw_ok _ hm
      rw [List.reverse_reverse] at e
      exact eq_of_beq e
    · have ⟨k, hk⟩ := Classical.not_forall.mp hb
      have ⟨hk1, hk2⟩ := Classical.not_imp.mp hk
      have hk3 : bad k = true := by simpa using hk2
      have hm : k ∈ ns.map lowN := List.mem_map.mpr ⟨k, hk1, bad_low hk3⟩
      rw [enc_bad hm hk3, law_bad hm hk3]
      rfl

-- text Loop
section
variable {prog : Program} {w : World} {A : Around} {E : Value → Shared → Prop} {s : Shared} {env : Env} {h₀ : Heap} {x : Str} {px : Pos} {body : List Stmt} {Q : Flow → Shared → Prop} {m₀ : Str → Option Value} {news : List (Addr × Obj)} {g : Obj → List (Addr × Obj)} {ak : Addr} {ok : Obj}
/-- the end of a turn of a loop whose name is a cell -/
noncomputable def TurnEnd (h₀ : Heap) (L : Addr) (stored : List Str) (m₀ : Str → Option Value) (l : Obj → List (Addr × Obj)) (cv : Value) (s₁ : Shared) (Q : Flow → Shared → Prop) (f : Flow) (s₂ : Shared) : Prop :=
  match f with
  | .ret v => Q (.ret v) s₂
  | .brk => Q .next s₂
  | _ => ∃ h' tk m' o, s₂ = { s₁ with heap := h', toks := tk } ∧ Fr h₀ L h' m' ∧ News h₀ L h' (l o) ∧ o.data = .cell (some cv) ∧ ∀ z, stored.contains z = false → m' z = m₀ z
theorem turn_next {L : Addr} {stored : List Str} {l : Obj → List (Addr × Obj)} {cv : Value} {s₁ : Shared} {h' : Heap} {tk : Nat} {m' : Str → Option Value} {o : Obj} {news' : List (Addr × Obj)} (F : Fr h₀ L h' m') (N : News h₀ L h' news') (hd : o.data = .cell (some cv))
    (hs : ∀ p ∈ l o, p ∈ news') (hm : ∀ z, stored.contains z = false → m' z = m₀ z) : TurnEnd h₀ L stored m₀ l cv s₁ Q .next { s₁ with heap := h', toks := tk } :=
  ⟨h', tk, m', o, rfl, F, fun p hp => N p (hs p hp), hd, hm⟩
/-- a walk over range(n) whose name is a cell of the ledger -/
theorem for_range_cell {n : Nat} {r : Addr} {c₀ : Option Value} {t u v : Tok} (stored : List Str) (hh : A.handled = none) (F : Fr h₀ env.locals s.heap m₀) (N : News h₀ env.locals s.heap news) (_hc : env.cells.lookup x = some ak) (U : UpdF ak ok news g) (hok : ok.data = .cell c₀)
    (hr : IsRange s.heap r 0 (n : Int) 1 t u v) (hn : n ≤ 1000)
    (turn : ∀ (i : Nat) ti (ok' : Obj) c' (u : Str → Option Value) h tk I oI, i < n → ok'.data = .cell c' → (∀ p ∈ news, p.1 < I) → Fr h₀ env.locals h (fun y => if stored.contains y then u y else m₀ y) → News h₀ env.locals h ((I, oI) :: g ok') →
      wpAny (model prog w) A (assign (.Name x px) env (.int (i : Int) ti)) (fun _ s₃ => wpAny (model prog w) A (execs body env) (TurnEnd h₀ env.locals stored m₀ (fun o => (I, oI) :: g o) (.int (i : Int) ti) { s with heap := h, toks := tk } Q) E s₃) E { s with heap := h, toks := tk })
    (done : ∀ (u : Str → Option Value) h tk ok' c', ok'.data = .cell c' → Fr h₀ env.locals h (fun y => if stored.contains y then u y else m₀ y) → News h₀ env.locals h (g ok') → Q .next { s with heap := h, toks := tk }) :
    wpAny (model prog w) A (pyIter (.ref r)) (fun it s₂ => TurnsAt prog w A h₀ env (.Name x px) body Q E it s₂) E s := by
  obtain ⟨pre, post, hnews, hg, _, _⟩ := U.split
  have hsame : ∀ o, (g o).map (·.1) = news.map (·.1) := by intro o; rw [hg, hnews]; simp
  have hgk : g ok = news := by rw [hg, hnews]
  refine wpAny_pyIter_range hr (small_one (by decide) (by decide) (by omega) (by omega)) ?_
  have W := LCg.range_walks (prog := prog) (w := w) (I := s.heap.objs.size) hh 0 n
  have frm : ∀ {m : Str → Option Value}, (∀ z, stored.contains z = false → m z = m₀ z) → m = (fun y => if stored.contains y then m y else m₀ y) := by
    intro m hm'
    funext y
    cases h2 : stored.contains y with
    | true => simp
    | false => simp only [Bool.false_eq_true, if_false]; exact hm' y h2
  have hlt : ∀ p ∈ news, p.1 < s.heap.objs.size := fun p hp => Heap.lt_size (N p hp).1
  refine ⟨s.heap.objs.size, _, _, n, _, _, _, m₀, news, fun i m nx => ∃ o c, nx = g o ∧ o.data = .cell c ∧ ∀ z, stored.contains z = false → m z = m₀ z, rfl, KTurns.ofWalks W fun i v s Q E st q => ?_, ?_, ?_, ?_, ?_, F.push _, (fun p hp => ⟨Heap.get?_push_of_some _ (N p hp).1, (N p hp).2⟩), ⟨ok, c₀, hgk.symm, hok, fun _ _ => rfl⟩, ?_, ?_⟩
  · exact wpAny_of_eq (rfl : letOwnedTupleGo (.Name x px) _ v = pure ()) q
  · intro h
    exact absurd F.ns.lt (by rw [List.mem_singleton.mp h]; exact Nat.lt_irrefl _)
  · intro b hb
    rw [List.mem_singleton.mp hb]
    exact next_is_new F
  · intro p hp hI
    exact absurd (hlt p hp) (by rw [List.mem_singleton.mp hI]; exact Nat.lt_irrefl _)
  · show IsRangeIter _ _ _ _ _
    rw [rangeSize_nat]
    simpa using Heap.get?_push_size _ rfl
  · rintro i v m₁ nx h tk own hi ⟨ti, rfl⟩ ⟨o, c, rfl, ho, hk⟩ hnw ho1 ho2 ho3 hst F₁ N₁
    obtain ⟨oI, hI⟩ : ∃ oI, h.get? s.heap.objs.size = some oI := ⟨_, hst⟩
    have hmem := ho3 _ (List.mem_singleton.mpr rfl) (next_is_new F) _ hI
    rw [frm hk] at F₁
    have e0 : ((0 : Int) + (i : Int)) = (i : Int) := Int.zero_add _
    rw [e0]
    refine wpAny_mono (turn i ti o c m₁ h tk s.heap.objs.size oI hi ho hlt F₁ (fun p hp => N₁ p ?_)) (fun _ s₃ hq => wpAny_mono hq (fun f s₄ q => ?_) fun _ _ e => e) fun _ _ e => e
    · rcases List.mem_cons.mp hp with e | hp
      · rw [e]; exact List.mem_append_left _ hmem
      · exact List.mem_append_right _ hp
    · have fin : (∃ h' tk' m' o', s₄ = { s with heap := h', toks := tk' } ∧ Fr h₀ env.locals h' m' ∧ News h₀ env.locals h' ((s.heap.objs.size, oI) :: g o') ∧ o'.data = .cell (some (.int (i : Int) ti)) ∧ ∀ z, stored.contains z = false → m' z = m₀ z) →
          LoopStepU h₀ env.locals [s.heap.objs.size] own (fun m nx' => ∃ o c, nx' = g o ∧ o.data = .cell c ∧ ∀ z, stored.contains z = false → m z = m₀ z) { s with heap := h, toks := tk } .next s₄ := by
        rintro ⟨h', tk', m', o', e, F', N'', hd, hm⟩
        refine ⟨rfl, h', tk', m', g o', e, F', fun p hp => N'' p ?_, fun p hp => ?_, o', _, rfl, hd, hm⟩
        · rcases List.mem_append.mp hp with hp | hp
          · have h1 := List.mem_singleton.mp (ho1 p hp)
            have h2 := ho2 p hp
            rw [h1, hI] at h2
            have h3 := Option.some.inj h2
            obtain ⟨p1, p2⟩ := p
            dsimp only at h1 h3
            rw [h1, ← h3]
            exact List.mem_cons_self
          · exact List.mem_cons_of_mem _ hp
        · have h1 : p.1 ∈ (g o').map (·.1) := List.mem_map_of_mem hp
          rw [hsame o'] at h1
          obtain ⟨p', hp', e'⟩ := List.mem_map.mp h1
          intro hI'
          have := hlt p' hp'
          rw [e', List.mem_singleton.mp hI'] at this
          exact Nat.lt_irrefl _ this
      cases f with
      | ret v => exact .ret q
      | brk => exact .brk q
      | next => exact .next (fin q)
      | cont => exact .cont (fin q)
  · rintro h tk m₁ nx F₁ N₁ _ ⟨o, c, rfl, ho, hk⟩
    rw [frm hk] at F₁
    exact done m₁ h tk o c ho F₁ N₁
end

-- text L0
section
variable {prog : Program} {w : World} {A : Around} {E : Value → Shared → Prop} {s : Shared} {h₀ : Heap} {L l : Addr} {m : Str → Option Value} {news : List (Addr × Obj)} {Q : Value → Shared → Prop} {value slice : Expr}
theorem rowsAre_get {vs : List Value} (h : RowsAre news vs) : ∀ {i : Nat} {v : Value}, vs[i]? = some v → ∃ a its, v = .ref a ∧ (a, ({ cls := .type "tuple", data := .seq its } : Obj)) ∈ news ∧ IntTup its := by
  induction h with
  | nil => intro i v h; simp at h
  | cons hm hy _ ih =>
    intro i v hv
    cases i with
    | zero => exact ⟨_, _, by simpa using hv.symm, hm, hy⟩
    | succ i => simpa using ih (by simpa using hv)
theorem my_row {vs : List Value} {k i : Nat} {ti : Tok} (N : News h₀ L s.heap news) (hm : (l, listOf vs.toArray k) ∈ news) (hR : RowsAre news vs) (hi : i < 6) (hl : vs.length = 6)
    (h : ∀ a its, (a, ({ cls := .type "tuple", data := .seq its } : Obj)) ∈ news → IntTup its → Q (.ref a) s)
    (hs : subscripted slice false (.ref l) (.int (i : Int) ti) = operate [.ref l, .int (i : Int) ti] (getItem (.ref l) (.int (i : Int) ti)) := by with_unfolding_all rfl) :
    wpAny (model prog w) A (subscriptTail value slice (.ref l) (.int (i : Int) ti)) Q E s := by
  have hlt : i < vs.length := by omega
  obtain ⟨a, its, e2, e3, e4⟩ := rowsAre_get hR (List.getElem?_eq_getElem hlt)
  have hL := News.isList N hm
  refine tail_any hL.typeIs slot_list_getitem.lookup (wpAny_getItem_list hL (by omega) (by omega) (x := .ref a) ?_ (h a its e3 e4)) hs
  simpa [List.getElem?_eq_getElem hlt] using e2
theorem my_place {its : Array Value} {i : Nat} {ti : Tok} (N : News h₀ L s.heap news) (hm : (l, ({ cls := .type "tuple", data := .seq its } : Obj)) ∈ news) (hT : IntTup its) (hi : i < 5)
    (h : ∀ z t, Q (.int z t) s)
    (hs : subscripted slice false (.ref l) (.int (0 + (i : Int)) ti) = operate [.ref l, .int (0 + (i : Int)) ti] (getItem (.ref l) (.int (0 + (i : Int)) ti)) := by with_unfolding_all rfl) :
    wpAny (model prog w) A (subscriptTail value slice (.ref l) (.int (0 + (i : Int)) ti)) Q E s := by
  have ht : IsTup s.heap l its := News.isTup N hm
  have hlt : i < its.size := by rw [hT.1]; exact hi
  obtain ⟨z, t, e⟩ := hT.2 i _ (Array.getElem?_eq_getElem hlt)
  have hz : (0 + (i : Int)).toNat = i := by omega
  refine tail_any ht.typeIs slot_tuple_getitem.lookup (PyProof.Rows.getItem_tuple ht (by omega) (by omega) (seqIndex_of (by omega) (by omega)) (x := .int z t) ?_ (h z t)) hs
  rw [hz, Array.getElem?_eq_getElem hlt, e]
end
theorem hideI {P : Prop} {h₀ h' : Heap} {L D : Addr} {rest : List (Addr × Obj)} {vs : List Value} {a0 a1 a2 a3 a4 : Int} {t0 t1 t2 t3 t4 : Tok} (N : News h₀ L h' ((D, ({ cls := .type "tuple", data := .seq vs.toArray } : Obj)) :: rest)) (hv : vs = [.int a0 t0, .int a1 t1, .int a2 t2, .int a3 t3, .int a4 t4])
    (h : ∀ its, IntTup its → News h₀ L h' ((D, ({ cls := .type "tuple", data := .seq its } : Obj)) :: rest) → P) : P :=
  h _ (by subst hv; exact intTup) N
noncomputable def IsInt (v : Value) : Prop := ∃ z t, v = .int z t
theorem int_cons {ys : List Value} {n : Nat} (h : ys.length = n + 1) (hG : ∀ (i : Nat) v, ys[i]? = some v → IsInt v) : ∃ z t r, ys = .int z t :: r ∧ r.length = n ∧ ∀ (i : Nat) v, r[i]? = some v → IsInt v := by
  cases ys with
  | nil => exact absurd h (Nat.succ_ne_zero n).symm
  | cons a r =>
    obtain ⟨z, t, e⟩ := hG 0 a rfl
    exact ⟨z, t, r, by rw [e], Nat.succ.inj h, fun i v q => hG (i + 1) v q⟩
theorem five_ints {ys : List Value} (h : ys.length = 5) (hG : ∀ (i : Nat) v, ys[i]? = some v → IsInt v) : ∃ n0 t0 n1 t1 n2 t2 n3 t3 n4 t4, ys = [.int n0 t0, .int n1 t1, .int n2 t2, .int n3 t3, .int n4 t4] := by
  obtain ⟨n0, t0, r0, e0, h0, g0⟩ := int_cons h hG
  obtain ⟨n1, t1, r1, e1, h1, g1⟩ := int_cons h0 g0
  obtain ⟨n2, t2, r2, e2, h2, g2⟩ := int_cons h1 g1
  obtain ⟨n3, t3, r3, e3, h3, g3⟩ := int_cons h2 g2
  obtain ⟨n4, t4, r4, e4, h4, _⟩ := int_cons h3 g3
  have e5 := List.eq_nil_of_length_eq_zero h4
  exact ⟨n0, t0, n1, t1, n2, t2, n3, t3, n4, t4, by rw [e0, e1, e2, e3, e4, e5]⟩
theorem kw25 : True := by
  k_with "call ref" => (k_here; (with_reducible show wpAny _ _ (call (Value.ref 110) _) _ _ _); refine wpAny_call ?_; (refine' code_def ?k1 ?k2 ?k3 ?k4 ?k5 ?kA ?kF ?kK ?k6 ?k7 ?k8 ?k9 ?kB ?_ ?c2 ?c3 ?c4 ?c5; (case kA => exact rfl); (case kF => exact rfl); (case kK => exact rfl); (case k1 => k_asm); (case k2 => k_asm); (case k3 => k_asm); (case k4 => k_asm); (case k5 => k_asm); (case k6 => k_is); (case k7 => k_is); (case k8 => ktr_room); (case k9 => exact BindsTo.of_eq rfl); (case c5 => decide); (case kB => exact locs rfl); (case c2 => exact rfl); (case c3 => exact rfl); (case c4 => exact rfl); k_whole; intro g' L' h' FG' F' N' B' X' T'; (try dsimp only); (try k_lift B'); (try k_fold)))
  k_with "newTuple" => (k_here; walk_at "NEWTUP"; intro D' h' F' N' l1; (try k_lt l1); k_dflt (have hH' := fun P => hideI (P := P) N' rfl); clear N'; refine hH' _ ?_; clear hH'; intro its' hI' N'; (try k_sweep); (try k_fold))
  k_with "CompSrc" => (k_here; k_dflt ((refine LCg.CompSrc.range (n := 5) (by rfl) (by k_asm) (by k_asm) (by assumption) (by decide) (by rfl) (by rw [sizeLine_eq]; decide) ?_); intro g'; (refine comp_rest (fun _ v => IsInt v) (fun i' v' I' oI' C' oC' D' m' ys' h' tk' E' hi' hv' hC' hx' F' N' off' ne' => ?_) (fun ys' hys' hG' => ?_)); ((obtain ⟨t', hv''⟩ := hv'); subst hv''; (try k_fold)); rotate_left; ((have hq' := five_ints hys' hG'); (obtain ⟨n0', t0', n1', t1', n2', t2', n3', t3', n4', t4', hE'⟩ := hq'); subst hE'; clear hys' hG'; (intro D' h' tk' F' N' o1'); (try simp only [LCg.Off1] at o1'); (try k_fold)); rotate_left))
  k_with "subscriptTail Name Name ref int" => (k_here; (refine my_row (by k_asm) (by k_mem) (by repeat (first | exact RowsAre.nil | (refine RowsAre.cons (by k_mem) (by assumption) ?_))) (by assumption) (by rfl) ?_); intro a' its' hm' hT')
  k_with "subscriptTail Subscript Name Name Name ref int" => (k_here; (refine my_place (by k_asm) (by assumption) (by assumption) (by assumption) ?_); intro z' t')
  k_with "CompEnd" => (k_here; k_dflt ((refine LCg.CompEnd.intro (by assumption) (by assumption) _ (fun _ h => h) (by assumption) trivial ⟨rfl, ?_⟩); exact ⟨_, _, rfl⟩))
  k_with "call ref" => (k_here; k_dflt ((refine' useCt (text_c _ _ _ _ _ _ _ _ _ _ _ _) (by k_asm) (by k_asm) (by k_asm) (by k_asm) (by k_asm) (by exact rfl) (by (first | decide +kernel | ktr_room)) (by (first | decide +kernel | ktr_units)) (by trivial) ?_)); intro x' t' h' tk' g' F' N'; simp only [List.cons_append, List.nil_append] at N'; (try dsimp only); (try k_sweep); (try k_fold))
  trivial

theorem byte_in {x : Str} (h : GoodText x) : KBa.In (codes x) := h.2.1
theorem good_len {x : Str} (h : GoodText x) : (codes x).length ≤ 16777216 := by
  have := h.1
  rw [len_codes]; omega
theorem good_bytes {x : Str} (h : GoodText x) : KBw.bInts (byteArr (codes x)) = codes x ∧ (codes x).length ≤ 900 :=
  ⟨KBa.ints_make (byte_in h), by rw [len_codes]; exact h.1⟩
theorem good_decl {x : Str} (h : GoodText x) : x.length ≤ 900 ∧ ∀ k ∈ codes x, 0 ≤ k ∧ k < 256 := ⟨h.1, h.2.1⟩
section
variable {prog : Program} {w : World} {A : Around} {E : Value → Shared → Prop} {s : Shared} {Q : Value → Shared → Prop} {t u : Tok} {x y : Str}
theorem ne_same (h : Q (.bool false) s) : wpAny (model prog w) A (compareOp .NotEq (.str x t) (.str x u)) Q E s :=
  PyProof.Rows.ne_str (by rw [bne_self_eq_false]; exact h)
end
theorem both_same {x : Str} {a b : Option Str} (h : GoodText x) (h1 : a = (cutName (codes x)).bind encN) (h2 : b = (cutName (codes x)).bind lawN) : b = a :=
  h2.trans ((good_law h).symm.trans h1.symm)
theorem kw26 : True := by
  k_with "compareOp NotEq str str" => (k_here; refine ne_same ?_)
  k_with "call type:bytes" => (k_here; (with_reducible show wpAny _ _ (call (Value.type "bytes") [Value.ref _]) _ _ _); k_dflt (refine KBa.make_K (by k_asm) (by k_asm) (by rfl) (News.isList (by k_asm) (by k_mem)) (by assumption) (byte_in (by assumption)) (good_len (by assumption)) ?_); intro h' t' k' F' N' hin'; clear hin')
  k_with "call ref" => (k_here; k_dflt ((refine' useCt0 (xml_c _ _ _ _) (by k_asm) (by k_asm) (by k_asm) (by k_asm) (by k_asm) (by exact rfl) (by (first | decide +kernel | ktr_room)) (by (first | decide +kernel | ktr_units)) (by exact good_bytes (by assumption)) ?_)); intro x' t' h' tk' g' F' N'; skip; (rcases x' with _ | y'); all_goals (dsimp only [optV]; (try dsimp only); (try k_sweep); (try k_fold)))
  k_with "call ref" => (k_here; k_dflt ((refine' useCt0 (declared_c _ _ _) (by k_asm) (by k_asm) (by k_asm) (by k_asm) (by k_asm) (by exact rfl) (by (first | decide +kernel | ktr_room)) (by (first | decide +kernel | ktr_units)) (by exact good_decl (by assumption)) ?_)); intro x9' t' h' tk' g9' F' N'; (have e9 := both_same (by assumption) (by assumption) g9'); clear g9'; subst e9; (dsimp only [optV]; (try dsimp only); (try k_sweep); (try k_fold)))
  k_with "exec For Name Call cons nil" => (k_here; (rename Fr _ _ _ _ => lF'); (with_unfolding_all refine' For_turns lF' ?_; k_whole))
  trivial
theorem one_out {z a : Str} (h : [a].contains z = false) : z ≠ a := by simpa using h
theorem law_holds : PySem.Challenge.rw_nt0592_01.Holds := hd (by
  k_go0
  all_goals try k_fold
  all_goals k_steps
  refine StopAt.go ?_
  rename Fr _ _ _ _ => F0
  rename News _ _ _ _ => N0
  with_unfolding_all refine' for_range_cell (n := 6) [Str.ofString "text"] rfl F0 N0 ?hc ?U ?hok ?hr ?hn (fun i ti ok' c' u h tk I oI hi hok' hlt F1 N1 => ?_) (fun u h tk ok' c' hok' F1 N1 => ?_)
  case hc => rfl
  case U => k_updF
  case hok => assumption
  case hr => assumption
  case hn => decide
  all_goals (clear F0 N0)
  · k_lt hlt
    k_steps
    rename PySem.Str => xT
    have hGT : GoodText xT := by assumption
    refine ⟨_, _, _, .inl ⟨_, _, rfl, rfl, rfl⟩, rfl, by assumption, by assumption, ?_, fun g => comp_rest (fun i v => ∃ z t, (KStt.codes xT)[i]? = some z ∧ v = .int z t) ?turn ?fin⟩
    case turn =>
      intro i v I oI C oC D m₂ ys h tk E' hi hv hC hx F' N' off ne
      obtain ⟨c, u, hc, rfl⟩ := hv
      k_steps
      refine LCg.CompEnd.intro (by assumption) (by assumption) _ (fun _ h => h) off trivial ⟨rfl, _, _, KStt.code_at hc, rfl⟩
    case fin =>
      intro ys hys hG D h tk F1 N1 _
      have hS := intsAre_of (by rw [hys, KStt.codes_length]; rfl) hG
      clear hys hG
      k_steps
      all_goals (
        refine turn_next (by assumption) (by assumption) (by assumption) ?_ ?_
        · (repeat (refine List.forall_mem_cons.mpr ⟨by k_mem, ?_⟩)); exact List.forall_mem_nil _
        · intro z h1
          have q := one_out h1
          simp only [if_neg q, h1, Bool.false_eq_true, if_false])
    · rw [sizeLine_eq]; have := hGT.1; show PySem.Str.length _ ≤ _; omega
  · k_steps)

end Mine
theorem PySem.Challenge.cw_nt0592_01_holds : PySem.Challenge.rw_nt0592_01.Holds := by
  exact Mine.law_holds
