import PyProof.Rows.All
import Wide.All
import OpenK.AllK
import Wide.FinOn
import PySem.Challenge.RW_sa0082_01
open PySem PySem.W PyProof.Rows PySem.Calls PySem.Spec
set_option Elab.async false
set_option maxRecDepth 100000
namespace Mine
-- Hd
set_option maxRecDepth 100000 in
set_option maxHeartbeats 8000000 in
open_top hd for PySem.Challenge.rw_sa0082_01
local macro_rules | `(tactic| walk_at $s:str) => `(tactic| k_extra $(Lean.Syntax.mkStrLit ("my " ++ s.getString)))
-- A1
def Stop (P : Prop) : Prop := P
section
variable {prog : Program} {w : World} {A : Around} {E : Value → Shared → Prop} {Q : Flow → Shared → Prop} {s : Shared} {env : Env} {h₀ : Heap} {L : Addr}
def WEnd {σ : Type} (h₀ : Heap) (L : Addr) (s : Shared) (Inv : σ → (Str → Option Value) → List (Addr × Obj) → Prop) (μ : σ → Nat) (Q : Flow → Shared → Prop) (c : σ) (f : Flow) (s₃ : Shared) : Prop :=
  match f with
  | .next | .cont => ∃ c' h' tk m₂ news₂, s₃ = { s with heap := h', toks := tk } ∧ Fr h₀ L h' m₂ ∧ News h₀ L h' news₂ ∧ μ c' < μ c ∧ Inv c' m₂ news₂
  | .brk => Q .next s₃
  | .ret v => Q (.ret v) s₃
theorem while_rule {σ : Type} {test : Expr} {body : List Stmt} {pos : Pos} {m : Str → Option Value} {news : List (Addr × Obj)} (Inv : σ → (Str → Option Value) → List (Addr × Obj) → Prop) (μ : σ → Nat) (c₀ : σ)
    (F : Fr h₀ L s.heap m) (N : News h₀ L s.heap news) (h0 : Inv c₀ m news)
    (turn : ∀ c m₁ news₁ h₁ tk₁, Inv c m₁ news₁ → Fr h₀ L h₁ m₁ → News h₀ L h₁ news₁ →
      wpAny (model prog w) A (isTrue test env (eval test env)) (fun b s₂ =>
        if b = true then wpAny (model prog w) A (execs body env) (fun f s₃ => Stop (WEnd h₀ L s Inv μ Q c f s₃)) E s₂ else Q .next s₂) E { s with heap := h₁, toks := tk₁ })
    (hE : PassesOwn (model prog w) A env E := by passes_own) :
    wpAny (model prog w) A (exec (.While test body [] pos) env) Q E s := by
  refine While_inv2 (fun n m nx => ∃ c, μ c = n ∧ Inv c m nx) F N ⟨c₀, rfl, h0⟩ ?_ hE
  rintro n m₁ nx h tk F₁ N₁ ⟨c, rfl, hc⟩
  refine wpAny_mono (turn c m₁ nx h tk hc F₁ N₁) (fun b s₂ p => ?_) fun _ _ x => x
  cases b with
  | false => simpa using p
  | true =>
    simp only [if_true] at p ⊢
    refine wpAny_mono p (fun f s₃ q => ?_) fun _ _ x => x
    unfold Stop at q
    cases f with
    | ret v => exact q
    | brk => exact q
    | next =>
      obtain ⟨c', h', tk', m', news', rfl, F', N', hm, hi⟩ := q
      exact ⟨h', tk', m', news', μ c', rfl, F', N', hm, c', rfl, hi⟩
    | cont =>
      obtain ⟨c', h', tk', m', news', rfl, F', N', hm, hi⟩ := q
      exact ⟨h', tk', m', news', μ c', rfl, F', N', hm, c', rfl, hi⟩
theorem WEnd.mk {σ : Type} {Inv : σ → (Str → Option Value) → List (Addr × Obj) → Prop} {μ : σ → Nat} {Q : Flow → Shared → Prop} {c : σ} {h' : Heap} {tk : Nat} {m₂ : Str → Option Value} {news₂ : List (Addr × Obj)} (c' : σ)
    (F : Fr h₀ L h' m₂) (N : News h₀ L h' news₂) (hm : μ c' < μ c) (hi : Inv c' m₂ news₂) : Stop (WEnd h₀ L s Inv μ Q c .next { s with heap := h', toks := tk }) := ⟨c', h', tk, m₂, news₂, rfl, F, N, hm, hi⟩
end
def Fresh (news tl : List (Addr × Obj)) : Prop := ∀ q ∈ news, ∀ p ∈ tl, q.1 ≠ p.1
theorem Fresh.nil {news : List (Addr × Obj)} : Fresh news [] := fun _ _ _ h => nomatch h
theorem Fresh.ord1 {news : List (Addr × Obj)} {a : Addr} {o : Obj} (h : AllLt a news) : Fresh news [(a, o)] := fun q hq p hp => Nat.ne_of_lt (ktn_ord1 h q hq p hp)
theorem Fresh.ord2 {news tl : List (Addr × Obj)} {a : Addr} {o : Obj} (h : AllLt a (news ++ tl)) (k : Fresh news tl) : Fresh news ((a, o) :: tl) := fun q hq p hp => by
  rcases List.mem_cons.mp hp with rfl | hp
  · exact Nat.ne_of_lt (ktn_ltOf h q (List.mem_append.mpr (.inl hq)))
  · exact k q hq p hp
section
variable {w : World} {loose : List Str} {mean : ExcName → Option Value} {mg mb : Str → Option Value}
def Ctr (w : World) (loose : List Str) (mean : ExcName → Option Value) (mg mb : Str → Option Value) (D : Nat) (f : Addr) (vs : List Value) (Pre : List (Addr × Obj) → Prop) (Out : List (Addr × Obj) → Value → Prop) : Prop :=
  ∀ (dp un : Nat) (gd : Option (List Code)) (cn : Str) (cs : Scope) (a : Addr) (ccd : Value) (cl : List (Str × Addr)) (outer : List Env) (A₀ : Around) (base h₀ : Heap) (L : Addr) (m : Str → Option Value) (news : List (Addr × Obj)) (s : Shared) (Q E : Value → Shared → Prop),
    Below A₀ base outer h₀ → Fr h₀ L s.heap m → (hd.heap_39 w.params).In h₀ → News h₀ L s.heap news → Top hd.view_39 loose mean mg mb h₀ → cs.kind = .function → Pre news → dp + D < recursionLimit → un + 8 * D < cLine →
    (∀ r tl h' tk', Fr h₀ L h' m → News h₀ L h' (news ++ tl) → Fresh news tl → Out tl r → Stop (Q r { s with heap := h', toks := tk' })) →
    wpAny (model PySem.Challenge.pw_sa0082_01 w) (ktrTop dp un gd cn cs L a ccd cl outer) (call (.ref f) vs) Q E s
theorem stop_intro {P : Prop} (h : Stop P) : P := h
theorem words1 : True := by
  k_with_none
  k_with "my exec While Compare cons nil" => (k_here; refine stop_intro ?_)
  k_with "my pyIter ref" => (k_here; refine stop_intro ?_)
  trivial
theorem ifn_l {α : Type} {p : Prop} [Decidable p] {a b c : α} (h : ¬p) (e : b = c) : (if p then a else b) = c := (if_neg h).trans e
theorem ifn_r {α : Type} {p : Prop} [Decidable p] {a b c : α} (h : ¬p) (e : c = b) : c = (if p then a else b) := e.trans (if_neg h).symm
def App (m : Str → Option Value) (x : Str) : Option Value := m x
theorem ff_n {m m' : Str → Option Value} : ∀ z ∈ ([] : List Str), App m z = App m' z := fun _ h => nomatch h
theorem ff_c {m m' : Str → Option Value} {x : Str} {l : List Str} (h : App m x = App m' x) (t : ∀ z ∈ l, App m z = App m' z) : ∀ z ∈ x :: l, App m z = App m' z := List.forall_mem_cons.mpr ⟨h, t⟩
theorem map_ext (xs : List Str) {m m' : Str → Option Value} (h : ∀ x ∈ xs, App m x = App m' x) (h' : ∀ y, (∀ x ∈ xs, y ≠ x) → m y = m' y) : m = m' := by
  funext y
  by_cases hy : ∃ x ∈ xs, y = x
  · obtain ⟨x, hx, rfl⟩ := hy
    exact h _ hx
  · exact h' y fun x hx e => hy ⟨x, hx, e⟩
theorem fr_map {h₀ h : Heap} {L : Addr} {m m' : Str → Option Value} (F : Fr h₀ L h m) (e : m = m') : Fr h₀ L h m' := e ▸ F
theorem look_kst (l : List (Str × Value)) : (fun y => List.lookup y l) = kstB (fun _ => none) l := by
  funext y
  induction l with
  | nil => rfl
  | cons p r ih =>
    obtain ⟨x, v⟩ := p
    show List.lookup y ((x, v) :: r) = if y = x then some v else kstB (fun _ => none) r y
    rw [List.lookup_cons, ← ih]
    by_cases hy : y = x
    · subst hy; simp
    · have e : (y == x) = false := by simpa using hy
      rw [e, if_neg hy]
theorem fr_entry {h₀ h : Heap} {L : Addr} {m : Str → Option Value} (F : Fr h₀ L h m) (l : List (Str × Value)) (e : m = fun y => List.lookup y l) : Fr h₀ L h (kstB (fun _ => none) l) := by
  rw [← look_kst, ← e]; exact F
theorem words2 : True := by
  k_with_none
  k_with "my exec While Compare cons nil" => (k_here; refine stop_intro ?_)
  k_with "my pyIter ref" => (k_here; refine stop_intro ?_)
  k_with "my ff" => exact ff_n
  k_with "my ff" => (refine ff_c rfl ?_; walk_at "ff")
  k_with "my fg" => (intro yqz hyqz; (repeat' (first | (refine ifn_l (hyqz _ ?m9) ?_; (case m9 => walk_at "fm")) | (refine ifn_r (hyqz _ ?m9) ?_; (case m9 => walk_at "fm")) | fail)); rfl)
  k_with "my fm" => first | with_reducible exact List.mem_cons_self .. | (refine List.mem_cons_of_mem _ ?_; walk_at "fm")
  trivial
theorem gcd_step {a b : Int} (ha : 0 ≤ a) (hb : 0 ≤ b) : Int.gcd b (a.fmod b) = Int.gcd a b := by
  rw [Int.fmod_eq_emod_of_nonneg _ hb, Int.gcd_comm a b, ← Int.gcd_mul_left_add_right b (a % b) (a / b), Int.mul_ediv_add_emod]
set_option maxHeartbeats 4000000 in
theorem gcd_ctr (x y : Int) (tx ty : Tok) : Ctr w loose mean mg mb 2 41 [.int x tx, .int y ty] (fun _ => True) (fun _ r => ∃ t, r = .int (Int.gcd x y : Int) t) := by
  w_top off
  unfold Ctr
  intro dp un gd cn cs fa ccd cl outer A₀ base h₀ L m news s Q E B F X N T hk hpre hdp hu hret
  refine wpAny_call ?_
  k_dflt ktr_enter
  rename Fr _ _ _ _ => F1
  replace F1 := fr_entry F1 [(Str.ofString "b", .int y ty), (Str.ofString "a", .int x tx)] rfl
  simp only [kstB] at F1
  k_steps
  unfold Stop
  rename Fr _ _ _ _ => F1
  rename News _ _ _ _ => N1
  refine while_rule (σ := Int × Int) (fun c m₁ n₁ => ∃ ta tb tl, m₁ = (fun y => if y = Str.ofString "b" then some (.int c.2 tb) else if y = Str.ofString "a" then some (.int c.1 ta) else none) ∧ n₁ = news ++ tl ∧ Fresh news tl ∧ 0 ≤ c.1 ∧ 0 ≤ c.2 ∧ Int.gcd c.1 c.2 = Int.gcd x y) (fun c => c.2.toNat) (if x < 0 then -x else x, if y < 0 then -y else y) F1 (ktn_tl1 N1) ?_ ?_
  · refine ⟨_, _, _, map_ext [Str.ofString "a", Str.ofString "b"] (by walk_at "ff") ?_, rfl, Fresh.ord1 (allLt_of (by assumption)), by dsimp only; omega, by dsimp only; omega, ?_⟩
    · intro y hy
      simp only [List.forall_mem_cons] at hy
      simp only [hy, if_false]
    · dsimp only
      split <;> split <;> simp
  · rintro ⟨a, b⟩ m₁ n₁ h tk ⟨ta, tb, tl, rfl, rfl, hfr, ha, hb, hg⟩ F1 N1
    clear F
    k_steps
    · dsimp only at ha hb hg
      rename (a, b).snd ≠ 0 => hne
      dsimp only at hne
      refine WEnd.mk (b, a.fmod b) (by assumption) (ktn_tl2 (by assumption)) ?_ ⟨_, _, _, map_ext [Str.ofString "a", Str.ofString "b"] (by walk_at "ff") (by walk_at "fg"), rfl, Fresh.ord2 (by ktn_lt) hfr, hb, ?_, ?_⟩
      · dsimp only
        have := Int.fmod_lt_of_pos a (b := b) (by omega)
        have := Int.fmod_nonneg_of_pos a (b := b) (by omega)
        omega
      · exact Int.fmod_nonneg_of_pos a (b := b) (by omega)
      · dsimp only
        rw [gcd_step ha hb, hg]
    · dsimp only at ha hb hg
      rename (a, b).snd = 0 => h0
      dsimp only at h0
      refine hret _ _ _ _ (by assumption) (by assumption) hfr ⟨ta, ?_⟩
      rw [← hg, h0, Int.gcd_zero_right]
      congr 1
      omega
end
theorem words3 : True := by
  k_with_none
  trivial
-- A2
abbrev tup2 (p q : Int) (t u : Tok) (n : Nat) : Obj := { cls := .type "tuple", data := .seq #[.int p t, .int q u] n }
def RatIn (K : Frag) (news : List (Addr × Obj)) (v : Value) (x : Rat) : Prop :=
  ∃ a t u n, v = .ref a ∧ (K.lookup a = some (tup2 x.num x.den t u n) ∨ (a, tup2 x.num x.den t u n) ∈ news)
theorem RatIn.mono {K : Frag} {news news' : List (Addr × Obj)} {v : Value} {x : Rat} (h : RatIn K news v x) (hs : ∀ p ∈ news, p ∈ news') : RatIn K news' v x := by
  obtain ⟨a, t, u, n, e, h⟩ := h
  exact ⟨a, t, u, n, e, h.imp id (hs _)⟩
theorem RatIn.new {K : Frag} {news : List (Addr × Obj)} {D : Addr} {x : Rat} {p q : Int} {t u : Tok} {n : Nat} (hm : (D, tup2 p q t u n) ∈ news) (hp : p = x.num) (hq : q = x.den) : RatIn K news (.ref D) x := by
  subst hp; subst hq
  exact ⟨D, t, u, n, rfl, .inr hm⟩
theorem RatIn.tup {K : Frag} {h₀ h : Heap} {L a : Addr} {m : Str → Option Value} {news : List (Addr × Obj)} {x : Rat} (F : Fr h₀ L h m) (X : K.In h₀) (N : News h₀ L h news) (hx : RatIn K news (.ref a) x) :
    ∃ t u, IsTup h a #[.int x.num t, .int x.den u] := by
  obtain ⟨a', t, u, n, e, hx⟩ := hx
  cases e
  refine ⟨t, u, ?_⟩
  rcases hx with hx | hx
  · exact ⟨_, F.keep _ _ (X _ _ hx), rfl, n, rfl⟩
  · exact ⟨_, (N _ hx).1, rfl, n, rfl⟩
section
variable {w : World} {loose : List Str} {mean : ExcName → Option Value} {mg mb : Str → Option Value}
theorem ctr_use {D : Nat} {f : Addr} {vs : List Value} {Pre : List (Addr × Obj) → Prop} {Out : List (Addr × Obj) → Value → Prop} (C : Ctr w loose mean mg mb D f vs Pre Out)
    {dp un : Nat} {gd : Option (List Code)} {cn : Str} {cs : Scope} {a : Addr} {ccd : Value} {cl : List (Str × Addr)} {outer : List Env} {A₀ : Around} {base h₀ : Heap} {L : Addr} {m : Str → Option Value} {news : List (Addr × Obj)} {s : Shared} {Q E : Value → Shared → Prop}
    (B : Below A₀ base outer h₀) (F : Fr h₀ L s.heap m) (X : (hd.heap_39 w.params).In h₀) (N : News h₀ L s.heap news) (T : Top hd.view_39 loose mean mg mb h₀) (hk : cs.kind = .function) (hpre : Pre news) (hdp : dp + D < recursionLimit) (hu : un + 8 * D < cLine)
    (ret : ∀ r tl h' tk', Fr h₀ L h' m → News h₀ L h' (news ++ tl) → Fresh news tl → Out tl r → Q r { s with heap := h', toks := tk' }) :
    wpAny (model PySem.Challenge.pw_sa0082_01 w) (ktrTop dp un gd cn cs L a ccd cl outer) (call (.ref f) vs) Q E s := C _ _ _ _ _ _ _ _ _ _ _ _ _ _ _ _ _ _ B F X N T hk hpre hdp hu ret
end
theorem words4 : True := by
  k_with_none
  k_with "my use" => ( (case k1 => k_asm); (case k2 => k_asm); (case k3 => k_asm); (case k4 => k_asm); (case k5 => k_asm); (case kK => first | exact rfl | assumption); (case kd => ktr_room); (case ku => ktr_units))
  k_with "my call ref" => (k_here; (with_reducible show wpAny _ _ (call (Value.ref 41) [_, _]) _ _ _); k_dflt (refine' ctr_use (gcd_ctr _ _ _ _) ?k1 ?k2 ?k3 ?k4 ?k5 ?kK trivial ?kd ?ku ?_); walk_at "use"; k_whole; intro r9qz tl9qz h9qz tk9qz F9qz N9qz fr9qz ho9qz; obtain ⟨t9qz, e9qz⟩ := ho9qz; subst e9qz; (try k_fold))
  trivial
theorem depth_room {dp D : Nat} (h : dp + D < recursionLimit) (hD : 101 ≤ D) : dp + 1 + 100 < recursionLimit := by omega
theorem words5 : True := by
  k_with_none
  k_with "my use" => ( (case k1 => k_asm); (case k2 => k_asm); (case k3 => k_asm); (case k4 => k_asm); (case k5 => k_asm); (case kK => first | exact rfl | assumption); (case kd => ktr_room); (case ku => ktr_units))
  k_with "my call ref" => (k_here; (with_reducible show wpAny _ _ (call (Value.ref 41) [_, _]) _ _ _); k_dflt (refine' ctr_use (gcd_ctr _ _ _ _) ?k1 ?k2 ?k3 ?k4 ?k5 ?kK trivial ?kd ?ku ?_); walk_at "use"; k_whole; intro r9qz tl9qz h9qz tk9qz F9qz N9qz fr9qz ho9qz; obtain ⟨t9qz, e9qz⟩ := ho9qz; subst e9qz; (try k_fold))
  k_with "my binaryOp FloorDiv int int" => (k_here; (refine' floordiv_int ?kne ?_ ?kroom); (case kne => omega); (case kroom => exact Or.inr (PylongRoom.of (PySem.Heap.NoLimit.keeps (Top.nolimit (by assumption)) (Fr.keep (by assumption))) (depth_room (by assumption) (by decide)))); k_whole)
  trivial
theorem rat_num {x y : Int} (hb : y ≠ 0) : Int.fdiv x (if y > 0 then (Int.gcd x y : Int) else 0 - Int.gcd x y) = (Rat.divInt x y).num := by
  rw [Rat.num_divInt, Int.gcd_comm y x]
  have hg : (0 : Int) < Int.gcd x y := by
    have := Int.gcd_pos_of_ne_zero_right x hb
    omega
  have hd : (Int.gcd x y : Int) ∣ x := Int.gcd_dvd_left ..
  split
  · rw [Int.sign_eq_one_of_pos (by omega), Int.one_mul, Int.fdiv_eq_ediv_of_nonneg _ (by omega)]
  · rw [Int.sign_eq_neg_one_of_neg (by omega)]
    obtain ⟨k, hk⟩ := hd
    generalize (Int.gcd x y : Int) = g at *
    subst hk
    rw [Int.zero_sub, Int.neg_one_mul, ← Int.mul_neg, Int.mul_ediv_cancel_left _ (by omega), ← Int.neg_mul_neg, Int.mul_fdiv_cancel_left _ (by omega)]
theorem rat_den {x y : Int} (hb : y ≠ 0) : Int.fdiv y (if y > 0 then (Int.gcd x y : Int) else 0 - Int.gcd x y) = (Rat.divInt x y).den := by
  rw [Rat.den_divInt, if_neg hb, Int.gcd_comm y x]
  have hg : (0 : Int) < Int.gcd x y := by
    have := Int.gcd_pos_of_ne_zero_right x hb
    omega
  have hd : (Int.gcd x y : Int) ∣ y := Int.gcd_dvd_right ..
  rw [Int.natCast_ediv]
  split
  · rw [Int.fdiv_eq_ediv_of_nonneg _ (by omega), Int.natAbs_of_nonneg (by omega)]
  · have : ((y.natAbs : Nat) : Int) = -y := by omega
    rw [this]
    obtain ⟨k, hk⟩ := hd
    generalize (Int.gcd x y : Int) = g at *
    subst hk
    rw [Int.zero_sub, ← Int.mul_neg, Int.mul_ediv_cancel_left _ (by omega), ← Int.neg_mul_neg, Int.mul_fdiv_cancel_left _ (by omega)]
section
variable {w : World} {loose : List Str} {mean : ExcName → Option Value} {mg mb : Str → Option Value}
set_option maxHeartbeats 4000000 in
theorem rat_ctr (x y : Int) (tx ty : Tok) : Ctr w loose mean mg mb 104 57 [.int x tx, .int y ty] (fun _ => y ≠ 0) (fun news r => RatIn (hd.heap_39 w.params) news r (Rat.divInt x y)) := by
  w_top off
  unfold Ctr
  intro dp un gd cn cs fa ccd cl outer A₀ base h₀ L m news s Q E B F X N T hk hpre hdp hu hret
  refine wpAny_call ?_
  k_dflt ktr_enter
  rename Fr _ _ _ _ => F1
  replace F1 := fr_entry F1 [(Str.ofString "bottom", .int y ty), (Str.ofString "top", .int x tx)] rfl
  simp only [kstB] at F1
  clear F
  have hg : (0 : Int) < Int.gcd x y := by
    have := Int.gcd_pos_of_ne_zero_right x hpre
    omega
  k_steps
  all_goals (try (exact absurd (by assumption) hpre))
  · have e1 := rat_num (x := x) hpre
    have e2 := rat_den (x := x) hpre
    rw [if_pos (by assumption)] at e1 e2
    rename News _ _ _ _ => N9
    refine hret _ _ _ _ (by assumption) (ktn_tl2 N9) (Fresh.ord2 (by ktn_lt) (by assumption)) (RatIn.new (List.mem_cons_self ..) e1 e2)
  · have e1 := rat_num (x := x) hpre
    have e2 := rat_den (x := x) hpre
    rw [if_neg (by assumption)] at e1 e2
    rename News _ _ _ _ => N9
    refine hret _ _ _ _ (by assumption) (ktn_tl2 N9) (Fresh.ord2 (by ktn_lt) (by assumption)) (RatIn.new (List.mem_cons_self ..) e1 e2)
end
theorem words6 : True := by
  k_with_none
  trivial
-- A3
abbrev iBits (a : Int) : Nat := Builtin.Int.intBits a
def Bd (n : Nat) (x : Rat) : Prop := iBits x.num ≤ n ∧ iBits (x.den : Int) ≤ n
theorem Bd.mono {n m : Nat} {x : Rat} (h : Bd n x) (e : n ≤ m) : Bd m x := ⟨Nat.le_trans h.1 e, Nat.le_trans h.2 e⟩
theorem Bd.divInt {n m : Nat} {p q : Int} (hq : q ≠ 0) (hp : iBits p ≤ n) (hm : iBits q ≤ m) : Bd (max n m) (Rat.divInt p q) := by
  constructor
  · refine Nat.le_trans (bits_of_natAbs_le (b := p) ?_ hp) (Nat.le_max_left ..)
    rw [← rat_num hq]
    exact natAbs_fdiv_le _ _
  · refine Nat.le_trans (bits_of_natAbs_le (b := q) ?_ hm) (Nat.le_max_right ..)
    rw [← rat_den hq]
    exact natAbs_fdiv_le _ _
theorem rat_add_eq (x y : Rat) : Rat.divInt (x.num * y.den + y.num * x.den) (x.den * y.den) = x + y := by
  rw [Rat.add_def', ← Rat.divInt_ofNat, Int.natCast_mul]
theorem rat_sub_eq (x y : Rat) : Rat.divInt (x.num * y.den - y.num * x.den) (x.den * y.den) = x - y := by
  rw [Rat.sub_def', ← Rat.divInt_ofNat, Int.natCast_mul]
theorem rat_mul_eq (x y : Rat) : Rat.divInt (x.num * y.num) (x.den * y.den) = x * y := by
  rw [Rat.mul_def', ← Rat.divInt_ofNat, Int.natCast_mul]
theorem rat_div_eq (x y : Rat) (hy : y ≠ 0) : Rat.divInt (x.num * y.den) (x.den * y.num) = x / y := by
  rw [Rat.div_def, Rat.inv_def]
  conv => rhs; rw [← Rat.num_divInt_den x]
  rw [Rat.divInt_mul_divInt]
theorem den_ne (x : Rat) : (x.den : Int) ≠ 0 := by have := x.den_nz; omega
theorem num_ne {x : Rat} (h : x ≠ 0) : x.num ≠ 0 := fun e => h (Rat.num_eq_zero.mp e)
theorem Bd.add {n m : Nat} {x y : Rat} (hx : Bd n x) (hy : Bd m y) : Bd (n + m + 1) (x + y) := by
  rw [← rat_add_eq]
  refine (Bd.divInt (Int.mul_ne_zero (den_ne x) (den_ne y)) (bits_add (bits_mul hx.1 hy.2) (bits_mul hy.1 hx.2)) (bits_mul hx.2 hy.2)).mono (by omega)
theorem Bd.sub {n m : Nat} {x y : Rat} (hx : Bd n x) (hy : Bd m y) : Bd (n + m + 1) (x - y) := by
  rw [← rat_sub_eq]
  refine (Bd.divInt (Int.mul_ne_zero (den_ne x) (den_ne y)) (bits_sub (bits_mul hx.1 hy.2) (bits_mul hy.1 hx.2)) (bits_mul hx.2 hy.2)).mono (by omega)
theorem Bd.mul {n m : Nat} {x y : Rat} (hx : Bd n x) (hy : Bd m y) : Bd (n + m) (x * y) := by
  rw [← rat_mul_eq]
  refine (Bd.divInt (Int.mul_ne_zero (den_ne x) (den_ne y)) (bits_mul hx.1 hy.1) (bits_mul hx.2 hy.2)).mono (by omega)
theorem Bd.div {n m : Nat} {x y : Rat} (hx : Bd n x) (hy : Bd m y) (h0 : y ≠ 0) : Bd (n + m) (x / y) := by
  rw [← rat_div_eq _ _ h0]
  refine (Bd.divInt (Int.mul_ne_zero (den_ne x) (num_ne h0)) (bits_mul hx.1 hy.2) (bits_mul hx.2 hy.1)).mono (by omega)
section
variable {prog : Program} {w : World} {A : Around} {E : Value → Shared → Prop} {s : Shared} {K : Frag} {a L : Addr} {h₀ : Heap} {m : Str → Option Value} {news news₀ : List (Addr × Obj)} {x : Rat} {value slice : Expr} {u : Tok} {Q : Value → Shared → Prop}
theorem rat_item0 (F : Fr h₀ L s.heap m) (X : K.In h₀) (N : News h₀ L s.heap news) (hx : RatIn K news₀ (.ref a) x) (hs : ∀ p ∈ news₀, p ∈ news) (h : ∀ t, Q (.int x.num t) s)
    (he : subscripted slice false (.ref a) (.int 0 u) = operate [.ref a, .int 0 u] (getItem (.ref a) (.int 0 u)) := by with_unfolding_all rfl) :
    wpAny (model prog w) A (subscriptTail value slice (.ref a) (.int 0 u)) Q E s := by
  obtain ⟨t, v, ht⟩ := (hx.mono hs).tup F X N
  exact item_tupleT (l := [.int x.num t, .int x.den v]) ht (by decide) (by decide) (j := 0) rfl rfl (h t) he
theorem rat_item1 (F : Fr h₀ L s.heap m) (X : K.In h₀) (N : News h₀ L s.heap news) (hx : RatIn K news₀ (.ref a) x) (hs : ∀ p ∈ news₀, p ∈ news) (h : ∀ t, Q (.int x.den t) s)
    (he : subscripted slice false (.ref a) (.int 1 u) = operate [.ref a, .int 1 u] (getItem (.ref a) (.int 1 u)) := by with_unfolding_all rfl) :
    wpAny (model prog w) A (subscriptTail value slice (.ref a) (.int 1 u)) Q E s := by
  obtain ⟨t, v, ht⟩ := (hx.mono hs).tup F X N
  exact item_tupleT (l := [.int x.num t, .int x.den v]) ht (by decide) (by decide) (j := 1) rfl rfl (h v) he
end
local macro_rules | `(tactic| bits_by_make) => `(tactic| with_reducible assumption)
theorem words7 : True := by
  k_with_none
  k_with "my sub" => first | assumption | (refine List.Mem.tail _ ?_; walk_at "sub") | (refine List.mem_append.mpr (Or.inl ?_); walk_at "sub") | (refine List.mem_append.mpr (Or.inr ?_); walk_at "sub")
  k_with "my subs" => (intro pqz hpqz; walk_at "sub")
  k_with "my subscriptTail" => (k_here; (with_reducible show wpAny _ _ (subscriptTail _ _ (Value.ref _) (Value.int 0 _)) _ _ _); k_dflt (refine' rat_item0 ?k1 ?k2 ?k3 ?k4 ?k5 ?_ ?k6; (case k4 => with_reducible assumption); (case k1 => k_asm); (case k2 => k_asm); (case k3 => k_asm); (case k5 => walk_at "subs"); (case k6 => with_unfolding_all rfl); k_whole); intro _)
  k_with "my subscriptTail" => (k_here; (with_reducible show wpAny _ _ (subscriptTail _ _ (Value.ref _) (Value.int 1 _)) _ _ _); k_dflt (refine' rat_item1 ?k1 ?k2 ?k3 ?k4 ?k5 ?_ ?k6; (case k4 => with_reducible assumption); (case k1 => k_asm); (case k2 => k_asm); (case k3 => k_asm); (case k5 => walk_at "subs"); (case k6 => with_unfolding_all rfl); k_whole); intro _)
  k_with "my use" => ( (case k1 => k_asm); (case k2 => k_asm); (case k3 => k_asm); (case k4 => k_asm); (case k5 => k_asm); (case kK => first | exact rfl | assumption); (case kd => ktr_room); (case ku => ktr_units))
  k_with "my call ref" => (k_here; (with_reducible show wpAny _ _ (call (Value.ref 57) [_, _]) _ _ _); k_dflt (refine' ctr_use (rat_ctr _ _ _ _) ?k1 ?k2 ?k3 ?k4 ?k5 ?kK ?kp ?kd ?ku ?_); walk_at "use"; (case kp => with_reducible assumption); k_whole; intro r9qz tl9qz h9qz tk9qz F9qz N9qz fr9qz ho9qz; (try k_fold))
  trivial
section
variable {w : World} {loose : List Str} {mean : ExcName → Option Value} {mg mb : Str → Option Value}
set_option maxHeartbeats 4000000 in
theorem radd_ctr (a b : Addr) (x y : Rat) : Ctr w loose mean mg mb 106 64 [.ref a, .ref b]
    (fun news => RatIn (hd.heap_39 w.params) news (.ref a) x ∧ RatIn (hd.heap_39 w.params) news (.ref b) y ∧ Bd 1000000 x ∧ Bd 1000000 y) (fun news r => RatIn (hd.heap_39 w.params) news r (x + y)) := by
  w_top off
  unfold Ctr
  intro dp un gd cn cs fa ccd cl outer A₀ base h₀ L m news s Q E B F X N T hk hpre hdp hu hret
  obtain ⟨hx, hy, ⟨hx1, hx2⟩, ⟨hy1, hy2⟩⟩ := hpre
  have hne := Int.mul_ne_zero (den_ne x) (den_ne y)
  refine wpAny_call ?_
  k_dflt ktr_enter
  rename Fr _ _ _ _ => F1
  replace F1 := fr_entry F1 [(Str.ofString "b", .ref b), (Str.ofString "a", .ref a)] rfl
  simp only [kstB] at F1
  clear F
  k_steps
  rename RatIn _ _ _ (Rat.divInt _ _) => ho
  rw [rat_add_eq] at ho
  exact hret _ _ _ _ (by assumption) (by assumption) (by assumption) ho
set_option maxHeartbeats 4000000 in
theorem rsub_ctr (a b : Addr) (x y : Rat) : Ctr w loose mean mg mb 106 71 [.ref a, .ref b]
    (fun news => RatIn (hd.heap_39 w.params) news (.ref a) x ∧ RatIn (hd.heap_39 w.params) news (.ref b) y ∧ Bd 1000000 x ∧ Bd 1000000 y) (fun news r => RatIn (hd.heap_39 w.params) news r (x - y)) := by
  w_top off
  unfold Ctr
  intro dp un gd cn cs fa ccd cl outer A₀ base h₀ L m news s Q E B F X N T hk hpre hdp hu hret
  obtain ⟨hx, hy, ⟨hx1, hx2⟩, ⟨hy1, hy2⟩⟩ := hpre
  have hne := Int.mul_ne_zero (den_ne x) (den_ne y)
  refine wpAny_call ?_
  k_dflt ktr_enter
  rename Fr _ _ _ _ => F1
  replace F1 := fr_entry F1 [(Str.ofString "b", .ref b), (Str.ofString "a", .ref a)] rfl
  simp only [kstB] at F1
  clear F
  k_steps
  rename RatIn _ _ _ (Rat.divInt _ _) => ho
  rw [rat_sub_eq] at ho
  exact hret _ _ _ _ (by assumption) (by assumption) (by assumption) ho
set_option maxHeartbeats 4000000 in
theorem rmul_ctr (a b : Addr) (x y : Rat) : Ctr w loose mean mg mb 106 78 [.ref a, .ref b]
    (fun news => RatIn (hd.heap_39 w.params) news (.ref a) x ∧ RatIn (hd.heap_39 w.params) news (.ref b) y ∧ Bd 1000000 x ∧ Bd 1000000 y) (fun news r => RatIn (hd.heap_39 w.params) news r (x * y)) := by
  w_top off
  unfold Ctr
  intro dp un gd cn cs fa ccd cl outer A₀ base h₀ L m news s Q E B F X N T hk hpre hdp hu hret
  obtain ⟨hx, hy, ⟨hx1, hx2⟩, ⟨hy1, hy2⟩⟩ := hpre
  have hne := Int.mul_ne_zero (den_ne x) (den_ne y)
  refine wpAny_call ?_
  k_dflt ktr_enter
  rename Fr _ _ _ _ => F1
  replace F1 := fr_entry F1 [(Str.ofString "b", .ref b), (Str.ofString "a", .ref a)] rfl
  simp only [kstB] at F1
  clear F
  k_steps
  rename RatIn _ _ _ (Rat.divInt _ _) => ho
  rw [rat_mul_eq] at ho
  exact hret _ _ _ _ (by assumption) (by assumption) (by assumption) ho
set_option maxHeartbeats 4000000 in
theorem rdiv_ctr (a b : Addr) (x y : Rat) : Ctr w loose mean mg mb 106 85 [.ref a, .ref b]
    (fun news => RatIn (hd.heap_39 w.params) news (.ref a) x ∧ RatIn (hd.heap_39 w.params) news (.ref b) y ∧ Bd 1000000 x ∧ Bd 1000000 y ∧ y ≠ 0) (fun news r => RatIn (hd.heap_39 w.params) news r (x / y)) := by
  w_top off
  unfold Ctr
  intro dp un gd cn cs fa ccd cl outer A₀ base h₀ L m news s Q E B F X N T hk hpre hdp hu hret
  obtain ⟨hx, hy, ⟨hx1, hx2⟩, ⟨hy1, hy2⟩, h0⟩ := hpre
  have hne := Int.mul_ne_zero (den_ne x) (num_ne h0)
  refine wpAny_call ?_
  k_dflt ktr_enter
  rename Fr _ _ _ _ => F1
  replace F1 := fr_entry F1 [(Str.ofString "b", .ref b), (Str.ofString "a", .ref a)] rfl
  simp only [kstB] at F1
  clear F
  k_steps
  rename RatIn _ _ _ (Rat.divInt _ _) => ho
  rw [rat_div_eq _ _ h0] at ho
  exact hret _ _ _ _ (by assumption) (by assumption) (by assumption) ho
end
theorem words8 : True := by
  k_with_none
  trivial
-- A4
theorem words9 : True := by
  k_with_none
  k_with "my sub" => first | assumption | (refine List.Mem.tail _ ?_; walk_at "sub") | (refine List.mem_append.mpr (Or.inl ?_); walk_at "sub") | (refine List.mem_append.mpr (Or.inr ?_); walk_at "sub")
  k_with "my subs" => (intro pqz hpqz; walk_at "sub")
  k_with "my subscriptTail" => (k_here; (with_reducible show wpAny _ _ (subscriptTail _ _ (Value.ref _) (Value.int 0 _)) _ _ _); k_dflt (refine' rat_item0 ?k1 ?k2 ?k3 ?k4 ?k5 ?_ ?k6; (case k4 => with_reducible assumption); (case k1 => k_asm); (case k2 => k_asm); (case k3 => k_asm); (case k5 => walk_at "subs"); (case k6 => with_unfolding_all rfl); k_whole); intro _)
  k_with "my subscriptTail" => (k_here; (with_reducible show wpAny _ _ (subscriptTail _ _ (Value.ref _) (Value.int 1 _)) _ _ _); k_dflt (refine' rat_item1 ?k1 ?k2 ?k3 ?k4 ?k5 ?_ ?k6; (case k4 => with_reducible assumption); (case k1 => k_asm); (case k2 => k_asm); (case k3 => k_asm); (case k5 => walk_at "subs"); (case k6 => with_unfolding_all rfl); k_whole); intro _)
  k_with "my use" => ( (case k1 => k_asm); (case k2 => k_asm); (case k3 => k_asm); (case k4 => k_asm); (case k5 => k_asm); (case kK => first | exact rfl | assumption); (case kd => ktr_room); (case ku => ktr_units))
  trivial
def Small (x : Rat) : Prop := x.num.natAbs < 18446744073709551616 ∧ x.den < 18446744073709551616
section
variable {w : World} {loose : List Str} {mean : ExcName → Option Value} {mg mb : Str → Option Value}
set_option maxHeartbeats 4000000 in
theorem is_vast_ctr (a : Addr) (x : Rat) : Ctr w loose mean mg mb 2 92 [.ref a]
    (fun news => RatIn (hd.heap_39 w.params) news (.ref a) x ∧ Small x) (fun _ r => r = .bool false) := by
  w_top off
  unfold Ctr
  intro dp un gd cn cs fa ccd cl outer A₀ base h₀ L m news s Q E B F X N T hk hpre hdp hu hret
  obtain ⟨hx, hs1, hs2⟩ := hpre
  refine wpAny_call ?_
  k_dflt ktr_enter
  rename Fr _ _ _ _ => F1
  replace F1 := fr_entry F1 [(Str.ofString "a", .ref a)] rfl
  simp only [kstB] at F1
  clear F
  have e64 : (2 : Int) ^ (Int.toNat 64) = 18446744073709551616 := by decide
  k_steps
  exact hret _ [] _ _ (by assumption) (by rw [List.append_nil]; assumption) Fresh.nil (congrArg Value.bool (decide_eq_false (by rw [e64]; split <;> (try split) <;> omega)))
set_option maxHeartbeats 4000000 in
theorem rcompare_ctr (a b : Addr) (x y : Rat) : Ctr w loose mean mg mb 2 99 [.ref a, .ref b]
    (fun news => RatIn (hd.heap_39 w.params) news (.ref a) x ∧ RatIn (hd.heap_39 w.params) news (.ref b) y ∧ x = y ∧ Bd 1000000 x) (fun _ r => ∃ t, r = .int 0 t) := by
  w_top off
  unfold Ctr
  intro dp un gd cn cs fa ccd cl outer A₀ base h₀ L m news s Q E B F X N T hk hpre hdp hu hret
  obtain ⟨hx, hy, rfl, hx1, hx2⟩ := hpre
  refine wpAny_call ?_
  k_dflt ktr_enter
  rename Fr _ _ _ _ => F1
  replace F1 := fr_entry F1 [(Str.ofString "b", .ref b), (Str.ofString "a", .ref a)] rfl
  simp only [kstB] at F1
  clear F
  k_steps
  refine hret _ [] _ _ (by assumption) (by rw [List.append_nil]; assumption) Fresh.nil ⟨_, congrArg (Value.int · _) ?_⟩
  rw [Int.sub_self]
  decide
theorem words10 : True := by
  k_with_none
  k_with "my sub" => first | assumption | (refine List.Mem.tail _ ?_; walk_at "sub") | (refine List.mem_append.mpr (Or.inl ?_); walk_at "sub") | (refine List.mem_append.mpr (Or.inr ?_); walk_at "sub")
  k_with "my subs" => (intro pqz hpqz; walk_at "sub")
  k_with "my subscriptTail" => (k_here; (with_reducible show wpAny _ _ (subscriptTail _ _ (Value.ref _) (Value.int 0 _)) _ _ _); k_dflt (refine' rat_item0 ?k1 ?k2 ?k3 ?k4 ?k5 ?_ ?k6; (case k4 => with_reducible assumption); (case k1 => k_asm); (case k2 => k_asm); (case k3 => k_asm); (case k5 => walk_at "subs"); (case k6 => with_unfolding_all rfl); k_whole); intro _)
  k_with "my subscriptTail" => (k_here; (with_reducible show wpAny _ _ (subscriptTail _ _ (Value.ref _) (Value.int 1 _)) _ _ _); k_dflt (refine' rat_item1 ?k1 ?k2 ?k3 ?k4 ?k5 ?_ ?k6; (case k4 => with_reducible assumption); (case k1 => k_asm); (case k2 => k_asm); (case k3 => k_asm); (case k5 => walk_at "subs"); (case k6 => with_unfolding_all rfl); k_whole); intro _)
  k_with "my use" => ( (case k1 => k_asm); (case k2 => k_asm); (case k3 => k_asm); (case k4 => k_asm); (case k5 => k_asm); (case kK => first | exact rfl | assumption); (case kd => ktr_room); (case ku => ktr_units))
  k_with "my call ref" => (k_here; (with_reducible show wpAny _ _ (call (Value.ref 92) [_]) _ _ _); k_dflt (refine' ctr_use (is_vast_ctr _ _) ?k1 ?k2 ?k3 ?k4 ?k5 ?kK ?kp ?kd ?ku ?_); walk_at "use"; (case kp => exact ⟨by with_reducible assumption, by with_reducible assumption⟩); k_whole; intro r9qz tl9qz h9qz tk9qz F9qz N9qz fr9qz ho9qz; subst ho9qz; (try k_fold))
  trivial
set_option maxHeartbeats 4000000 in
theorem let_ctr (a : Addr) (x : Rat) : Ctr w loose mean mg mb 4 113 [.ref a]
    (fun news => RatIn (hd.heap_39 w.params) news (.ref a) x ∧ Small x) (fun _ r => r = .ref a) := by
  w_top off
  unfold Ctr
  intro dp un gd cn cs fa ccd cl outer A₀ base h₀ L m news s Q E B F X N T hk hpre hdp hu hret
  obtain ⟨hx, hs⟩ := hpre
  refine wpAny_call ?_
  k_dflt ktr_enter
  rename Fr _ _ _ _ => F1
  replace F1 := fr_entry F1 [(Str.ofString "number", .ref a)] rfl
  simp only [kstB] at F1
  clear F
  k_steps
  exact hret _ _ _ _ (by assumption) (by assumption) (by assumption) rfl
end
theorem words11 : True := by
  k_with_none
  trivial
-- A5
theorem words12 : True := by
  k_with_none
  k_with "my sub" => first | assumption | (refine List.Mem.tail _ ?_; walk_at "sub") | (refine List.mem_append.mpr (Or.inl ?_); walk_at "sub") | (refine List.mem_append.mpr (Or.inr ?_); walk_at "sub")
  k_with "my subs" => (intro pqz hpqz; walk_at "sub")
  k_with "my use" => ( (case k1 => k_asm); (case k2 => k_asm); (case k3 => k_asm); (case k4 => k_asm); (case k5 => k_asm); (case kK => first | exact rfl | assumption); (case kd => ktr_room); (case ku => ktr_units))
  k_with "my pyIter ref" => (k_here; refine stop_intro ?_)
  trivial
def RatsIn (K : Frag) (news : List (Addr × Obj)) (vs : List Value) (xs : List Rat) : Prop := vs.length = xs.length ∧ ∀ (i : Nat) v, vs[i]? = some v → RatIn K news v (xs.getD i 0)
theorem RatsIn.mono {K : Frag} {news news' : List (Addr × Obj)} {vs : List Value} {xs : List Rat} (h : RatsIn K news vs xs) (hs : ∀ p ∈ news, p ∈ news') : RatsIn K news' vs xs := ⟨h.1, fun i v e => (h.2 i v e).mono hs⟩
def ListIn (K : Frag) (news : List (Addr × Obj)) (l : Addr) (xs : List Rat) : Prop := ∃ vs n, (l, listOf vs.toArray n) ∈ news ∧ RatsIn K news vs xs
theorem ListIn.mono {K : Frag} {news news' : List (Addr × Obj)} {l : Addr} {xs : List Rat} (h : ListIn K news l xs) (hs : ∀ p ∈ news, p ∈ news') : ListIn K news' l xs := by
  obtain ⟨vs, n, h1, h2⟩ := h
  exact ⟨vs, n, hs _ h1, h2.mono hs⟩
theorem r0_in {w : World} {news : List (Addr × Obj)} : RatIn (hd.heap_39 w.params) news (.ref 49) 0 := ⟨49, 242, 243, 0, rfl, .inl (by k_is)⟩
theorem r1_in {w : World} {news : List (Addr × Obj)} : RatIn (hd.heap_39 w.params) news (.ref 50) 1 := ⟨50, 245, 246, 0, rfl, .inl (by k_is)⟩
theorem RatIn.isRef {K : Frag} {news : List (Addr × Obj)} {v : Value} {x : Rat} (h : RatIn K news v x) : ∃ a, v = .ref a := let ⟨a, _, _, _, e, _⟩ := h; ⟨a, e⟩
section
variable {prog : Program} {w : World} {A : Around} {E : Value → Shared → Prop} {s : Shared} {K : Frag} {a L : Addr} {h₀ : Heap} {m : Str → Option Value} {news news₀ : List (Addr × Obj)} {xs : List Rat} {value slice : Expr} {k : Int} {u : Tok} {Q : Value → Shared → Prop}
theorem ListIn.list (N : News h₀ L s.heap news) (hx : ListIn K news a xs) : ∃ vs, s.heap.IsList a vs.toArray ∧ RatsIn K news vs xs := by
  obtain ⟨vs, n, h1, h2⟩ := hx
  exact ⟨vs, ⟨_, (N _ h1).1, rfl, n, rfl⟩, h2⟩
theorem list_item (N : News h₀ L s.heap news) (hx : ListIn K news₀ a xs) (hs : ∀ p ∈ news₀, p ∈ news) (h0 : 0 ≤ k) (hk : k < xs.length) (h9 : k < 2 ^ 63) (h : ∀ b, RatIn K news (.ref b) (xs.getD k.toNat 0) → Q (.ref b) s)
    (he : subscripted slice false (.ref a) (.int k u) = operate [.ref a, .int k u] (getItem (.ref a) (.int k u)) := by with_unfolding_all rfl) :
    wpAny (model prog w) A (subscriptTail value slice (.ref a) (.int k u)) Q E s := by
  obtain ⟨vs, hl, hr⟩ := (hx.mono hs).list N
  have hlt : k.toNat < vs.length := by have := hr.1; omega
  have hv : vs[k.toNat]? = some vs[k.toNat] := List.getElem?_eq_getElem hlt
  obtain ⟨b, hb⟩ := (hr.2 _ _ hv).isRef
  rw [hb] at hv
  exact tail_any hl.typeIs slot_list_getitem.lookup (wpAny_getItem_list hl h0 h9 (by simpa using hv) (h b (hr.2 _ _ hv))) he
theorem list_len (N : News h₀ L s.heap news) (hx : ListIn K news₀ a xs) (hs : ∀ p ∈ news₀, p ∈ news) (hk : xs.length ≤ 100) (h : ∀ t tk, Q (.int xs.length t) { s with toks := tk }) :
    wpAny (model prog w) A (call (.builtin "len") [.ref a]) Q E s := by
  obtain ⟨vs, hl, hr⟩ := (hx.mono hs).list N
  exact kun_lenL hl (k := xs.length) (by simp [hr.1]) (by omega) (h _ _)
end
theorem words13 : True := by
  k_with_none
  k_with "my sub" => first | assumption | (refine List.Mem.tail _ ?_; walk_at "sub") | (refine List.mem_append.mpr (Or.inl ?_); walk_at "sub") | (refine List.mem_append.mpr (Or.inr ?_); walk_at "sub")
  k_with "my subs" => (intro pqz hpqz; walk_at "sub")
  k_with "my use" => ( (case k1 => k_asm); (case k2 => k_asm); (case k3 => k_asm); (case k4 => k_asm); (case k5 => k_asm); (case kK => first | exact rfl | assumption); (case kd => ktr_room); (case ku => ktr_units))
  k_with "my pyIter ref" => (k_here; refine stop_intro ?_)
  k_with "my subscriptTail" => (k_here; (with_reducible show wpAny _ _ (subscriptTail _ _ (Value.ref _) (Value.int _ _)) _ _ _); k_dflt (refine' list_item ?k3 ?k4 ?k5 ?k7 ?k8 ?k9 ?_ ?k6; (case k4 => with_reducible assumption); (case k3 => k_asm); (case k5 => walk_at "subs"); (case k6 => with_unfolding_all rfl); (case k7 => omega); (case k8 => omega); (case k9 => omega); k_whole); intro b9qz hb9qz)
  k_with "my call builtin:len" => (k_here; (with_reducible show wpAny _ _ (call (Value.builtin "len") [Value.ref _]) _ _ _); k_dflt (refine' list_len ?k3 ?k4 ?k5 ?k7 ?_; (case k4 => with_reducible assumption); (case k3 => k_asm); (case k5 => walk_at "subs"); (case k7 => omega); k_whole); intro _ _)
  k_with "my rats" => first | with_reducible assumption | exact RatIn.mono (by with_reducible assumption) (by walk_at "subs") | exact r0_in | exact r1_in
  k_with "my call ref" => (k_here; (with_reducible show wpAny _ _ (call (Value.ref 99) [_, _]) _ _ _); k_dflt (refine' ctr_use (rcompare_ctr _ _ _ _) ?k1 ?k2 ?k3 ?k4 ?k5 ?kK ?kp ?kd ?ku ?_); walk_at "use"; (case kp => exact ⟨by walk_at "rats", by walk_at "rats", by first | assumption | omega, by assumption⟩); k_whole; intro r9qz tl9qz h9qz tk9qz F9qz N9qz fr9qz ho9qz; obtain ⟨t9qz, e9qz⟩ := ho9qz; subst e9qz; (try k_fold))
  trivial
theorem Bd.zero : Bd 1 0 := by constructor <;> decide
section
variable {w : World} {loose : List Str} {mean : ExcName → Option Value} {mg mb : Str → Option Value}
set_option maxHeartbeats 4000000 in
theorem need_begin_ctr (l : Addr) (xs : List Rat) : Ctr w loose mean mg mb 4 139 [.ref l, .ref 49]
    (fun news => ListIn (hd.heap_39 w.params) news l xs ∧ 0 < xs.length ∧ xs.length ≤ 100 ∧ xs.getD 0 0 = 0) (fun _ r => r = .none) := by
  w_top off
  unfold Ctr
  intro dp un gd cn cs fa ccd cl outer A₀ base h₀ L m news s Q E B F X N T hk hpre hdp hu hret
  obtain ⟨hl, h1, h2, h3⟩ := hpre
  have hb : Bd 1000000 (xs.getD 0 0) := by rw [h3]; exact Bd.zero.mono (by decide)
  refine wpAny_call ?_
  k_dflt ktr_enter
  rename Fr _ _ _ _ => F1
  replace F1 := fr_entry F1 [(Str.ofString "number", .ref 49), (Str.ofString "a", .ref l)] rfl
  simp only [kstB] at F1
  clear F
  k_steps
  exact hret _ _ _ _ (by assumption) (by assumption) (by assumption) rfl
end
theorem words14 : True := by
  k_with_none
  trivial
-- A6
theorem units_room9 {un D : Nat} (h : un + 8 * D < cLine) (hD : 9 ≤ D) : un + 3 + 64 < cLine := by omega
section
variable {prog : Program} {w : World} {A : Around} {E : Value → Shared → Prop} {s : Shared} {K : Frag} {a b L : Addr} {h₀ : Heap} {m : Str → Option Value} {news news₀ news₁ : List (Addr × Obj)} {x y : Rat} {Q : Value → Shared → Prop}
theorem RatIn.reads (F : Fr h₀ L s.heap m) (X : K.In h₀) (N : News h₀ L s.heap news) (hx : RatIn K news (.ref a) x) : ∃ as, Reads s.heap (.ref a) (.tuple [.int x.num, .int x.den]) as := by
  obtain ⟨t, u, o, h1, h2, n, h3⟩ := hx.tup F X N
  exact ⟨_, reads_tuple_at h1 h2 h3 (ReadsAll.cons (Reads.int _ _) (ReadsAll.cons (Reads.int _ _) ReadsAll.nil))⟩
theorem rat_eqv (x y : Rat) : PyData.eqv (.tuple [.int x.num, .int x.den]) (.tuple [.int y.num, .int y.den]) = decide (x = y) := by
  simp only [PyData.eqv, PyData.eqvAll, Bool.and_true]
  by_cases h : x = y
  · subst h; simp
  · rw [decide_eq_false h]
    by_cases h1 : x.num = y.num
    · have h2 : (x.den : Int) ≠ y.den := fun e => h (Rat.ext h1 (Int.ofNat.inj e))
      simp [h1, h2]
    · simp [h1]
theorem rat_shaped (x : Rat) : SeqAt.shaped (.tuple [.int x.num, .int x.den]) = true := by simp [SeqAt.shaped, PyData.canLay0, PyData.canLayAll0, PyData.depth, PyData.depthAll]
theorem rat_ne (F : Fr h₀ L s.heap m) (X : K.In h₀) (N : News h₀ L s.heap news) (hx : RatIn K news₀ (.ref a) x) (hs : ∀ p ∈ news₀, p ∈ news) (hy : RatIn K news₁ (.ref b) y) (hs' : ∀ p ∈ news₁, p ∈ news) (hu : A.units + 64 < cLine)
    (h : Q (.bool (!decide (x = y))) s) : wpAny (model prog w) A (compareOp .NotEq (.ref a) (.ref b)) Q E s := by
  obtain ⟨as, ra⟩ := (hx.mono hs).reads F X N
  obtain ⟨bs, rb⟩ := (hy.mono hs').reads F X N
  exact ne_dataH ra rb (rat_shaped x) (rat_shaped y) hu (by rw [rat_eqv]; exact h)
end
theorem app2 {A B C : List (Addr × Obj)} : A ++ B ++ C = A ++ (B ++ C) := List.append_assoc ..
theorem app3 {A B C D : List (Addr × Obj)} : A ++ B ++ C ++ D = A ++ (B ++ C ++ D) := by simp only [List.append_assoc]
theorem app4 {A B C D E : List (Addr × Obj)} : A ++ B ++ C ++ D ++ E = A ++ (B ++ C ++ D ++ E) := by simp only [List.append_assoc]
theorem Fresh.both {news A B : List (Addr × Obj)} (h : Fresh news A) (k : Fresh news B) : Fresh news (A ++ B) := fun q hq p hp => (List.mem_append.mp hp).elim (h q hq p) (k q hq p)
theorem Fresh.anti {X news A : List (Addr × Obj)} (h : Fresh X A) (hs : ∀ p ∈ news, p ∈ X) : Fresh news A := fun q hq p hp => h q (hs q hq) p hp
theorem Fresh.consr {news A : List (Addr × Obj)} {p : Addr × Obj} (h : ∀ q ∈ news, q.1 ≠ p.1) (k : Fresh news A) : Fresh news (p :: A) := fun q hq r hr => by
  rcases List.mem_cons.mp hr with rfl | hr
  · exact h q hq
  · exact k q hq r hr
theorem off_app {I : Addr} {A B : List (Addr × Obj)} (h : ∀ p ∈ A, p.1 ≠ I) (k : ∀ p ∈ B, p.1 ≠ I) : ∀ p ∈ A ++ B, p.1 ≠ I := fun p hp => (List.mem_append.mp hp).elim (h p) (k p)
theorem off_cons {I : Addr} {a : Addr × Obj} {B : List (Addr × Obj)} (h : a.1 ≠ I) (k : ∀ p ∈ B, p.1 ≠ I) : ∀ p ∈ a :: B, p.1 ≠ I := fun p hp => (List.mem_cons.mp hp).elim (fun e => e ▸ h) (k p)
theorem off_anti {I : Addr} {X Y : List (Addr × Obj)} (h : ∀ p ∈ Y, p.1 ≠ I) (hs : ∀ p ∈ X, p ∈ Y) : ∀ p ∈ X, p.1 ≠ I := fun p hp => h p (hs p hp)
theorem off_head {I : Addr} {q : Addr × Obj} {Y : List (Addr × Obj)} (h : ∀ p ∈ Y, p.1 ≠ I) (hm : q ∈ Y) : q.1 ≠ I := h q hm
theorem off_fresh {I : Addr} {it : Obj} {X A : List (Addr × Obj)} (h : Fresh X A) (hm : (I, it) ∈ X) : ∀ p ∈ A, p.1 ≠ I := fun p hp => Ne.symm (h _ hm p hp)
theorem RatIn.strip {K : Frag} {X : List (Addr × Obj)} {I : Addr} {it : Obj} {v : Value} {x : Rat} {c : String} (h : RatIn K ((I, it) :: X) v x) (hc : it.cls = .type c) (hn : c ≠ "tuple") : RatIn K X v x := by
  obtain ⟨a, t, u, n, e, h⟩ := h
  refine ⟨a, t, u, n, e, h.imp id fun hm => ?_⟩
  rcases List.mem_cons.mp hm with e' | hm
  · exfalso
    have := (Prod.mk.inj e').2
    rw [← this] at hc
    exact hn (by injection hc with h; exact h.symm)
  · exact hm
section
variable {prog : Program} {w : World} {A : Around} {E : Value → Shared → Prop} {Q : Flow → Shared → Prop} {s : Shared} {env : Env} {h₀ : Heap} {x : Str} {body : List Stmt}
def REnd (h₀ : Heap) (L : Addr) (s : Shared) (Inv : Nat → (Str → Option Value) → List (Addr × Obj) → Prop) (i : Nat) (I : Addr) (it : Obj) (Q : Flow → Shared → Prop) (f : Flow) (s₃ : Shared) : Prop :=
  match f with
  | .next | .cont => ∃ h' tk m' news', s₃ = { s with heap := h', toks := tk } ∧ Fr h₀ L h' m' ∧ News h₀ L h' ((I, it) :: news') ∧ (∀ p ∈ news', p.1 ≠ I) ∧ Inv (i + 1) m' news'
  | .brk => Q .next s₃
  | .ret v => Q (.ret v) s₃
theorem REnd.mk {L : Addr} {Inv : Nat → (Str → Option Value) → List (Addr × Obj) → Prop} {i : Nat} {I : Addr} {it : Obj} {h' : Heap} {tk : Nat} {m' : Str → Option Value} {news' : List (Addr × Obj)}
    (F : Fr h₀ L h' m') (N : News h₀ L h' ((I, it) :: news')) (ho : ∀ p ∈ news', p.1 ≠ I) (hi : Inv (i + 1) m' news') : Stop (REnd h₀ L s Inv i I it Q .next { s with heap := h', toks := tk }) := ⟨h', tk, m', news', rfl, F, N, ho, hi⟩
theorem for_range0 {r : Addr} {a₀ b₀ : Int} {t₀ u₀ v₀ : Tok} {n : Nat} {m₀ : Str → Option Value} {news : List (Addr × Obj)} (Inv : Nat → (Str → Option Value) → List (Addr × Obj) → Prop)
    (hh : A.handled = none) (hr : IsRange s.heap r a₀ b₀ 1 t₀ u₀ v₀) (hsmall : Builtin.Range.small a₀ b₀ 1 = true) (hn : Builtin.Range.rangeSize a₀ b₀ 1 = (n : Int)) (F : Fr h₀ env.locals s.heap m₀) (N : News h₀ env.locals s.heap news) (h0 : Inv 0 m₀ news)
    (turn : ∀ (i : Nat) t m₁ news₁ h tk I (it : Obj), i < n → Inv i m₁ news₁ → it.cls = .type "range_iterator" → (∀ p ∈ news₁, p.1 ≠ I) → Fr h₀ env.locals h (fun y => if y = x then some (.int (a₀ + i) t) else m₁ y) → News h₀ env.locals h ((I, it) :: news₁) →
      wpAny (model prog w) A (execs body env) (fun f s₃ => Stop (REnd h₀ env.locals s Inv i I it Q f s₃)) E { s with heap := h, toks := tk })
    (done : ∀ m₁ news₁ h tk, Inv n m₁ news₁ → Fr h₀ env.locals h m₁ → News h₀ env.locals h news₁ → Q .next { s with heap := h, toks := tk }) :
    wpAny (model prog w) A (pyIter (.ref r)) (fun it s₂ => LoopAtV prog w A h₀ env x body Q E it s₂) E s := by
  refine wpAny_pyIter_range hr hsmall ?_
  have W : Walks prog w A s.heap.objs.size [s.heap.objs.size] [s.heap.objs.size] n (fun i v => i < n ∧ ∃ t, v = .int (a₀ + i * 1) t)
      (fun i h => IsRangeIter h s.heap.objs.size (a₀ + (i : Nat) * 1) ((n : Int) - (i : Nat)) 1) := (Walks.range hh _ a₀ 1 n).bound
  refine ⟨s.heap.objs.size, _, _, n, _, _, m₀, news, Inv, rfl, W, ?_, ?_, ?_, (by show IsRangeIter _ _ _ _ _; rw [hn]; simpa using Heap.get?_push_size _ rfl), F.push _, (fun p hp => ⟨Heap.get?_push_of_some _ (N p hp).1, (N p hp).2⟩), h0, ?_, ?_⟩
  · intro hm
    exact absurd F.ns.lt ((List.mem_singleton.mp hm) ▸ Nat.lt_irrefl _)
  · intro b hb
    rw [List.mem_singleton.mp hb]
    exact next_is_new F
  · intro p hp hI
    exact absurd (Heap.lt_size (N p hp).1) ((List.mem_singleton.mp hI) ▸ Nat.lt_irrefl _)
  · rintro i v m₁ news₁ s₁ own ⟨hh', tk', rfl⟩ hin ⟨_, t, rfl⟩ hJ hoff hown hget hall hst' F₁ N₁
    have ho : hh'.get? s.heap.objs.size = some _ := hst'
    generalize hoeq : ({ cls := _, dict := _, data := _, slots := _ } : Obj) = o at ho
    have hcls : o.cls = .type "range_iterator" := by rw [← hoeq]
    have hio : (s.heap.objs.size, o) ∈ own := hall _ (List.mem_singleton.mpr rfl) (next_is_new F) o ho
    have hone : ∀ p ∈ own, p = (s.heap.objs.size, o) := by
      intro p hp
      have e1 := List.mem_singleton.mp (hown p hp)
      have e2 : hh'.get? p.1 = some p.2 := hget p hp
      rw [e1, ho] at e2
      exact Prod.ext e1 (Option.some.inj e2).symm
    have N₂ : News h₀ env.locals hh' ((s.heap.objs.size, o) :: news₁) := fun p hp => by
      rcases List.mem_cons.mp hp with rfl | hp
      · exact N₁ _ (List.mem_append_left _ hio)
      · exact N₁ _ (List.mem_append_right _ hp)
    have F₂ : Fr h₀ env.locals hh' (fun y => if y = x then some (.int (a₀ + (i : Int)) t) else m₁ y) := by
      have : a₀ + (i : Int) * 1 = a₀ + i := by omega
      rw [← this]; exact F₁
    refine wpAny_mono (turn i t m₁ news₁ hh' tk' s.heap.objs.size o hin hJ hcls (fun p hp e => hoff p hp (List.mem_singleton.mpr e)) F₂ N₂) (fun f s₂ p => ?_) fun _ _ e => e
    unfold Stop at p
    have fin : (∃ h' tk m' news', s₂ = { s with heap := h', toks := tk } ∧ Fr h₀ env.locals h' m' ∧ News h₀ env.locals h' ((s.heap.objs.size, o) :: news') ∧ (∀ p ∈ news', p.1 ≠ s.heap.objs.size) ∧ Inv (i + 1) m' news') →
        LoopStepU h₀ env.locals [s.heap.objs.size] own (Inv (i + 1)) { s with heap := hh', toks := tk' } .next s₂ := by
      rintro ⟨h', tk, m', news', e, F', N', hn', hi'⟩
      refine ⟨rfl, h', tk, m', news', e, F', fun p hp => ?_, fun p hp hq => hn' p hp (List.mem_singleton.mp hq), hi'⟩
      rcases List.mem_append.mp hp with hp | hp
      · rw [hone p hp]; exact N' _ (List.mem_cons_self ..)
      · exact N' p (List.mem_cons_of_mem _ hp)
    cases f with
    | ret v => exact .ret p
    | brk => exact .brk p
    | next => exact .next (fin p)
    | cont => exact .cont (fin p)
  · intro h' tk m' news' F' N' _ hJ
    exact done m' news' h' tk hJ F' N'
theorem for_range {r : Addr} {a₀ b₀ : Int} {t₀ u₀ v₀ : Tok} {n : Nat} {m₀ : Str → Option Value} {news : List (Addr × Obj)} (Inv : Nat → (Str → Option Value) → List (Addr × Obj) → Prop)
    (hh : A.handled = none) (hr : IsRange s.heap r a₀ b₀ 1 t₀ u₀ v₀) (hsmall : Builtin.Range.small a₀ b₀ 1 = true) (hn : Builtin.Range.rangeSize a₀ b₀ 1 = (n : Int)) (F : Fr h₀ env.locals s.heap m₀) (N : News h₀ env.locals s.heap news) (h0 : Inv 0 m₀ news)
    (turn : ∀ (i : Nat) t m₁ news₁ h tk I (it : Obj), i < n → Inv i m₁ news₁ → it.cls = .type "range_iterator" → (∀ p ∈ news₁, p.1 ≠ I) → Fr h₀ env.locals h (fun y => if y = x then some (.int (a₀ + i) t) else m₁ y) → News h₀ env.locals h ((I, it) :: news₁) →
      ∀ R : Flow → Shared → Prop, (∀ h' tk' m' news', Fr h₀ env.locals h' m' → News h₀ env.locals h' ((I, it) :: news') → (∀ p ∈ news', p.1 ≠ I) → Inv (i + 1) m' news' → Stop (R .next { s with heap := h', toks := tk' })) →
      wpAny (model prog w) A (execs body env) (fun f s₃ => Stop (R f s₃)) E { s with heap := h, toks := tk })
    (done : ∀ m₁ news₁ h tk, Inv n m₁ news₁ → Fr h₀ env.locals h m₁ → News h₀ env.locals h news₁ → Q .next { s with heap := h, toks := tk }) :
    wpAny (model prog w) A (pyIter (.ref r)) (fun it s₂ => LoopAtV prog w A h₀ env x body Q E it s₂) E s :=
  for_range0 Inv hh hr hsmall hn F N h0 (fun i t m₁ news₁ h tk I it hi hI hc ho F' N' => turn i t m₁ news₁ h tk I it hi hI hc ho F' N' (fun f s₃ => REnd h₀ env.locals s Inv i I it Q f s₃) (fun h' tk' m' news' F'' N'' o'' I'' => REnd.mk F'' N'' o'' I'')) done
end
-- A6b
section
variable {prog : Program} {w : World} {A : Around} {E : Value → Shared → Prop} {Q : Flow → Shared → Prop} {s : Shared} {env : Env} {h₀ : Heap} {x : Str} {body : List Stmt}
theorem for_range_down0 {r : Addr} {a₀ b₀ : Int} {t₀ u₀ v₀ : Tok} {n : Nat} {m₀ : Str → Option Value} {news : List (Addr × Obj)} (Inv : Nat → (Str → Option Value) → List (Addr × Obj) → Prop)
    (hh : A.handled = none) (hr : IsRange s.heap r a₀ b₀ (-1) t₀ u₀ v₀) (hsmall : Builtin.Range.small a₀ b₀ (-1) = true) (hn : Builtin.Range.rangeSize a₀ b₀ (-1) = (n : Int)) (F : Fr h₀ env.locals s.heap m₀) (N : News h₀ env.locals s.heap news) (h0 : Inv 0 m₀ news)
    (turn : ∀ (i : Nat) t m₁ news₁ h tk I (it : Obj), i < n → Inv i m₁ news₁ → it.cls = .type "range_iterator" → (∀ p ∈ news₁, p.1 ≠ I) → Fr h₀ env.locals h (fun y => if y = x then some (.int (a₀ - i) t) else m₁ y) → News h₀ env.locals h ((I, it) :: news₁) →
      wpAny (model prog w) A (execs body env) (fun f s₃ => Stop (REnd h₀ env.locals s Inv i I it Q f s₃)) E { s with heap := h, toks := tk })
    (done : ∀ m₁ news₁ h tk, Inv n m₁ news₁ → Fr h₀ env.locals h m₁ → News h₀ env.locals h news₁ → Q .next { s with heap := h, toks := tk }) :
    wpAny (model prog w) A (pyIter (.ref r)) (fun it s₂ => LoopAtV prog w A h₀ env x body Q E it s₂) E s := by
  refine wpAny_pyIter_range hr hsmall ?_
  have W : Walks prog w A s.heap.objs.size [s.heap.objs.size] [s.heap.objs.size] n (fun i v => i < n ∧ ∃ t, v = .int (a₀ + i * (-1)) t)
      (fun i h => IsRangeIter h s.heap.objs.size (a₀ + (i : Nat) * (-1)) ((n : Int) - (i : Nat)) (-1)) := (Walks.range hh _ a₀ (-1) n).bound
  refine ⟨s.heap.objs.size, _, _, n, _, _, m₀, news, Inv, rfl, W, ?_, ?_, ?_, (by show IsRangeIter _ _ _ _ _; rw [hn]; simpa using Heap.get?_push_size _ rfl), F.push _, (fun p hp => ⟨Heap.get?_push_of_some _ (N p hp).1, (N p hp).2⟩), h0, ?_, ?_⟩
  · intro hm
    exact absurd F.ns.lt ((List.mem_singleton.mp hm) ▸ Nat.lt_irrefl _)
  · intro b hb
    rw [List.mem_singleton.mp hb]
    exact next_is_new F
  · intro p hp hI
    exact absurd (Heap.lt_size (N p hp).1) ((List.mem_singleton.mp hI) ▸ Nat.lt_irrefl _)
  · rintro i v m₁ news₁ s₁ own ⟨hh', tk', rfl⟩ hin ⟨_, t, rfl⟩ hJ hoff hown hget hall hst' F₁ N₁
    have ho : hh'.get? s.heap.objs.size = some _ := hst'
    generalize hoeq : ({ cls := _, dict := _, data := _, slots := _ } : Obj) = o at ho
    have hcls : o.cls = .type "range_iterator" := by rw [← hoeq]
    have hio : (s.heap.objs.size, o) ∈ own := hall _ (List.mem_singleton.mpr rfl) (next_is_new F) o ho
    have hone : ∀ p ∈ own, p = (s.heap.objs.size, o) := by
      intro p hp
      have e1 := List.mem_singleton.mp (hown p hp)
      have e2 : hh'.get? p.1 = some p.2 := hget p hp
      rw [e1, ho] at e2
      exact Prod.ext e1 (Option.some.inj e2).symm
    have N₂ : News h₀ env.locals hh' ((s.heap.objs.size, o) :: news₁) := fun p hp => by
      rcases List.mem_cons.mp hp with rfl | hp
      · exact N₁ _ (List.mem_append_left _ hio)
      · exact N₁ _ (List.mem_append_right _ hp)
    have F₂ : Fr h₀ env.locals hh' (fun y => if y = x then some (.int (a₀ - (i : Int)) t) else m₁ y) := by
      have : a₀ + (i : Int) * (-1) = a₀ - i := by omega
      rw [← this]; exact F₁
    refine wpAny_mono (turn i t m₁ news₁ hh' tk' s.heap.objs.size o hin hJ hcls (fun p hp e => hoff p hp (List.mem_singleton.mpr e)) F₂ N₂) (fun f s₂ p => ?_) fun _ _ e => e
    unfold Stop at p
    have fin : (∃ h' tk m' news', s₂ = { s with heap := h', toks := tk } ∧ Fr h₀ env.locals h' m' ∧ News h₀ env.locals h' ((s.heap.objs.size, o) :: news') ∧ (∀ p ∈ news', p.1 ≠ s.heap.objs.size) ∧ Inv (i + 1) m' news') →
        LoopStepU h₀ env.locals [s.heap.objs.size] own (Inv (i + 1)) { s with heap := hh', toks := tk' } .next s₂ := by
      rintro ⟨h', tk, m', news', e, F', N', hn', hi'⟩
      refine ⟨rfl, h', tk, m', news', e, F', fun p hp => ?_, fun p hp hq => hn' p hp (List.mem_singleton.mp hq), hi'⟩
      rcases List.mem_append.mp hp with hp | hp
      · rw [hone p hp]; exact N' _ (List.mem_cons_self ..)
      · exact N' p (List.mem_cons_of_mem _ hp)
    cases f with
    | ret v => exact .ret p
    | brk => exact .brk p
    | next => exact .next (fin p)
    | cont => exact .cont (fin p)
  · intro h' tk m' news' F' N' _ hJ
    exact done m' news' h' tk hJ F' N'
theorem for_range_down {r : Addr} {a₀ b₀ : Int} {t₀ u₀ v₀ : Tok} {n : Nat} {m₀ : Str → Option Value} {news : List (Addr × Obj)} (Inv : Nat → (Str → Option Value) → List (Addr × Obj) → Prop)
    (hh : A.handled = none) (hr : IsRange s.heap r a₀ b₀ (-1) t₀ u₀ v₀) (hsmall : Builtin.Range.small a₀ b₀ (-1) = true) (hn : Builtin.Range.rangeSize a₀ b₀ (-1) = (n : Int)) (F : Fr h₀ env.locals s.heap m₀) (N : News h₀ env.locals s.heap news) (h0 : Inv 0 m₀ news)
    (turn : ∀ (i : Nat) t m₁ news₁ h tk I (it : Obj), i < n → Inv i m₁ news₁ → it.cls = .type "range_iterator" → (∀ p ∈ news₁, p.1 ≠ I) → Fr h₀ env.locals h (fun y => if y = x then some (.int (a₀ - i) t) else m₁ y) → News h₀ env.locals h ((I, it) :: news₁) →
      ∀ R : Flow → Shared → Prop, (∀ h' tk' m' news', Fr h₀ env.locals h' m' → News h₀ env.locals h' ((I, it) :: news') → (∀ p ∈ news', p.1 ≠ I) → Inv (i + 1) m' news' → Stop (R .next { s with heap := h', toks := tk' })) →
      wpAny (model prog w) A (execs body env) (fun f s₃ => Stop (R f s₃)) E { s with heap := h, toks := tk })
    (done : ∀ m₁ news₁ h tk, Inv n m₁ news₁ → Fr h₀ env.locals h m₁ → News h₀ env.locals h news₁ → Q .next { s with heap := h, toks := tk }) :
    wpAny (model prog w) A (pyIter (.ref r)) (fun it s₂ => LoopAtV prog w A h₀ env x body Q E it s₂) E s :=
  for_range_down0 Inv hh hr hsmall hn F N h0 (fun i t m₁ news₁ h tk I it hi hI hc ho F' N' => turn i t m₁ news₁ h tk I it hi hI hc ho F' N' (fun f s₃ => REnd h₀ env.locals s Inv i I it Q f s₃) (fun h' tk' m' news' F'' N'' o'' I'' => REnd.mk F'' N'' o'' I'')) done
end
-- A7
def mixedTo (xs ys : List Rat) (k : Nat) : Nat → Rat
  | 0 => 0
  | n + 1 => mixedTo xs ys k n + xs.getD n 0 * ys.getD (k - n) 0
def mixedS (xs ys : List Rat) (k : Nat) : Rat := mixedTo xs ys k (k + 1)
def Bds (n : Nat) (xs : List Rat) : Prop := ∀ i, Bd n (xs.getD i 0)
theorem mixedTo_bd {xs ys : List Rat} (hx : Bds 64 xs) (hy : Bds 64 ys) (k : Nat) : ∀ n, Bd (1 + 129 * n) (mixedTo xs ys k n)
  | 0 => Bd.zero
  | n + 1 => (Bd.add (mixedTo_bd hx hy k n) (Bd.mul (hx n) (hy (k - n)))).mono (by omega)
theorem words15 : True := by
  k_with_none
  k_with "my sub" => first | assumption | (refine List.Mem.tail _ ?_; walk_at "sub") | (refine List.mem_append.mpr (Or.inl ?_); walk_at "sub") | (refine List.mem_append.mpr (Or.inr ?_); walk_at "sub")
  k_with "my subs" => (intro pqz hpqz; walk_at "sub")
  k_with "my use" => ( (case k1 => k_asm); (case k2 => k_asm); (case k3 => k_asm); (case k4 => k_asm); (case k5 => k_asm); (case kK => first | exact rfl | assumption); (case kd => ktr_room); (case ku => ktr_units))
  k_with "my pyIter ref" => (k_here; refine stop_intro ?_)
  k_with "my subscriptTail" => (k_here; (with_reducible show wpAny _ _ (subscriptTail _ _ (Value.ref _) (Value.int _ _)) _ _ _); k_dflt (refine' list_item ?k3 ?k4 ?k5 ?k7 ?k8 ?k9 ?_ ?k6; (case k4 => with_reducible assumption); (case k3 => k_asm); (case k5 => walk_at "subs"); (case k6 => with_unfolding_all rfl); (case k7 => omega); (case k8 => omega); (case k9 => omega); k_whole); intro b9qz hb9qz)
  k_with "my call builtin:len" => (k_here; (with_reducible show wpAny _ _ (call (Value.builtin "len") [Value.ref _]) _ _ _); k_dflt (refine' list_len ?k3 ?k4 ?k5 ?k7 ?_; (case k4 => with_reducible assumption); (case k3 => k_asm); (case k5 => walk_at "subs"); (case k7 => omega); k_whole); intro _ _)
  k_with "my rats" => first | with_reducible assumption | exact RatIn.mono (by with_reducible assumption) (by walk_at "subs") | exact r0_in | exact r1_in
  k_with "my compareOp NotEq ref ref" => (k_here; (with_reducible show wpAny _ _ (compareOp CmpOp.NotEq (Value.ref _) (Value.ref _)) _ _ _); k_dflt (refine' rat_ne ?k1 ?k2 ?k3 ?k4 ?k5 ?k6 ?k7 ?k8 ?_; (case k4 => with_reducible assumption); (case k6 => first | with_reducible assumption | exact r0_in (news := [])); (case k1 => k_asm); (case k2 => k_asm); (case k3 => k_asm); (case k5 => walk_at "subs"); (case k7 => first | exact List.forall_mem_nil _ | walk_at "subs"); (case k8 => exact units_room9 (by assumption) (by decide)); k_whole))
  k_with "my bd" => first | with_reducible assumption | exact Bd.zero | exact (by with_reducible assumption : Bds _ _) _ | exact Bd.mul (by walk_at "bd") (by walk_at "bd") | exact Bd.add (by walk_at "bd") (by walk_at "bd") | exact Bd.sub (by walk_at "bd") (by walk_at "bd")
  k_with "my bds" => exact Bd.mono (by walk_at "bd") (by omega)
  k_with "my call ref" => (k_here; (with_reducible show wpAny _ _ (call (Value.ref 64) [_, _]) _ _ _); k_dflt (refine' ctr_use (radd_ctr _ _ _ _) ?k1 ?k2 ?k3 ?k4 ?k5 ?kK ?kp ?kd ?ku ?_); walk_at "use"; (case kp => exact ⟨by walk_at "rats", by walk_at "rats", by walk_at "bds", by walk_at "bds"⟩); k_whole; intro r9qz tl9qz h9qz tk9qz F9qz N9qz fr9qz ho9qz; (simp only [List.cons_append, List.nil_append] at N9qz); obtain ⟨a9qz, e9qz⟩ := RatIn.isRef ho9qz; subst e9qz; (try k_fold))
  k_with "my call ref" => (k_here; (with_reducible show wpAny _ _ (call (Value.ref 78) [_, _]) _ _ _); k_dflt (refine' ctr_use (rmul_ctr _ _ _ _) ?k1 ?k2 ?k3 ?k4 ?k5 ?kK ?kp ?kd ?ku ?_); walk_at "use"; (case kp => exact ⟨by walk_at "rats", by walk_at "rats", by walk_at "bds", by walk_at "bds"⟩); k_whole; intro r9qz tl9qz h9qz tk9qz F9qz N9qz fr9qz ho9qz; (simp only [List.cons_append, List.nil_append] at N9qz); obtain ⟨a9qz, e9qz⟩ := RatIn.isRef ho9qz; subst e9qz; (try k_fold))
  k_with "my ff" => exact ff_n
  k_with "my ff" => (refine ff_c rfl ?_; walk_at "ff")
  k_with "my fg" => (intro yqz hyqz; (repeat' (first | (refine ifn_l (hyqz _ ?m9) ?_; (case m9 => walk_at "fm")) | (refine ifn_r (hyqz _ ?m9) ?_; (case m9 => walk_at "fm")) | fail)); rfl)
  k_with "my fm" => first | with_reducible exact List.mem_cons_self .. | (refine List.mem_cons_of_mem _ ?_; walk_at "fm")
  k_with "my frs" => first | exact Fresh.nil | assumption | (refine Fresh.both ?_ ?_ <;> walk_at "frs") | exact Fresh.anti (by assumption) (by walk_at "subs")
  k_with "my offs" => first | assumption | (refine off_app ?_ ?_ <;> walk_at "offs") | exact off_fresh (by assumption) (List.mem_cons_self ..)
  trivial
section
variable {w : World} {loose : List Str} {mean : ExcName → Option Value} {mg mb : Str → Option Value}
set_option maxHeartbeats 4000000 in
theorem mixed_ctr (la lb : Addr) (xs ys : List Rat) (k : Nat) (t : Tok) : Ctr w loose mean mg mb 108 120 [.ref la, .ref lb, .int k t]
    (fun news => ListIn (hd.heap_39 w.params) news la xs ∧ ListIn (hd.heap_39 w.params) news lb ys ∧ k < xs.length ∧ k < ys.length ∧ xs.length ≤ 100 ∧ ys.length ≤ 100 ∧ Bds 64 xs ∧ Bds 64 ys) (fun news r => RatIn (hd.heap_39 w.params) news r (mixedS xs ys k)) := by
  w_top off
  unfold Ctr
  intro dp un gd cn cs fa ccd cl outer A₀ base h₀ L m news s Q E B F X N T hk hpre hdp hu hret
  obtain ⟨ha, hb, h2, h3, h4, h5, hx, hy⟩ := hpre
  refine wpAny_call ?_
  k_dflt ktr_enter
  rename Fr _ _ _ _ => F1
  replace F1 := fr_entry F1 [(Str.ofString "at", .int k t), (Str.ofString "b", .ref lb), (Str.ofString "a", .ref la)] rfl
  simp only [kstB] at F1
  clear F
  k_steps
  unfold Stop
  rename Fr _ _ _ _ => F2
  rename News _ _ _ _ => N2
  refine for_range (n := k + 1) (fun i m₁ n₁ => ∃ fv u tl, m₁ = (fun y => if y = Str.ofString "spot" then u else if y = Str.ofString "found" then some (.ref fv) else if y = Str.ofString "at" then some (.int k t) else if y = Str.ofString "b" then some (.ref lb) else if y = Str.ofString "a" then some (.ref la) else none) ∧ n₁ = news ++ tl ∧ Fresh news tl ∧ RatIn (hd.heap_39 w.params) tl (.ref fv) (mixedTo xs ys k i)) rfl (by assumption) (small_one (by omega) (by omega) (by omega) (by omega)) (rangeSize_nat _ _) F2 N2 ?_ ?_ ?_
  · exact ⟨49, none, [], map_ext [Str.ofString "spot", Str.ofString "found", Str.ofString "at", Str.ofString "b", Str.ofString "a"] (by walk_at "ff") (by walk_at "fg"), by rw [List.append_nil], Fresh.nil, r0_in⟩
  · rintro i ti m₁ n₁ h tk I it hi ⟨fv, u, tl, rfl, rfl, hfr, hf⟩ hit hoff F1 N1
    intro Rz hend
    clear F2 N2
    have hbf := (mixedTo_bd hx hy k i).mono (m := 100000) (by omega)
    have hb1 := hx i
    have hb2 := hy (k - i)
    have e1 : ((0 : Int) + i).toNat = i := by omega
    have e2 : ((k : Int) - (0 + i)).toNat = k - i := by omega
    k_steps
    · rename xs.getD _ 0 = 0 => h0
      rw [e1] at h0
      have e : mixedTo xs ys k (i + 1) = mixedTo xs ys k i := by simp only [mixedTo, h0, Rat.zero_mul, Rat.add_zero]
      exact hend _ _ _ _ F1 N1 hoff ⟨fv, _, tl, map_ext [Str.ofString "spot", Str.ofString "found", Str.ofString "at", Str.ofString "b", Str.ofString "a"] (by walk_at "ff") (by walk_at "fg"), rfl, hfr, by rw [e]; exact hf⟩
    · rename ys.getD _ 0 = 0 => h0
      rw [e2] at h0
      have e : mixedTo xs ys k (i + 1) = mixedTo xs ys k i := by simp only [mixedTo, h0, Rat.mul_zero, Rat.add_zero]
      exact hend _ _ _ _ F1 N1 hoff ⟨fv, _, tl, map_ext [Str.ofString "spot", Str.ofString "found", Str.ofString "at", Str.ofString "b", Str.ofString "a"] (by walk_at "ff") (by walk_at "fg"), rfl, hfr, by rw [e]; exact hf⟩
    · rename RatIn _ _ _ (mixedTo _ _ _ _ + _) => ho
      rw [e1, e2] at ho
      refine hend _ _ _ _ (by assumption) (by assumption) (by walk_at "offs") ⟨_, _, _, map_ext [Str.ofString "spot", Str.ofString "found", Str.ofString "at", Str.ofString "b", Str.ofString "a"] (by walk_at "ff") (by walk_at "fg"), app3, by walk_at "frs", ho.mono (by walk_at "subs")⟩
  · rintro m₁ n₁ h tk ⟨fv, u, tl, rfl, rfl, hfr, hf⟩ F1 N1
    k_steps
    exact hret _ _ _ _ (by assumption) (by assumption) hfr hf
end
theorem words16 : True := by
  k_with_none
  trivial
-- A8
section
open LCg
variable {prog : Program} {w : World} {A : Around} {s : Shared} {h₀ : Heap} {L : Addr} {m : Str → Option Value} {env : Env}
def CEnd (h₀ : Heap) (L : Addr) (m : Str → Option Value) (s : Shared) (I : Addr) (oI : Obj) (C : Addr) (oC : Obj) (D : Addr) (oD : Obj) (J : Value → List (Addr × Obj) → Prop) (y : Value) (s₂ : Shared) : Prop :=
  ∃ h' tk news', s₂ = { s with heap := h', toks := tk } ∧ Fr h₀ L h' m ∧ News h₀ L h' ((I, oI) :: (C, oC) :: (D, oD) :: news') ∧ ((∀ p ∈ news', p.1 ≠ I) ∧ (∀ p ∈ news', p.1 ≠ C) ∧ (∀ p ∈ news', p.1 ≠ D)) ∧ J y news'
theorem CEnd.mk {I C D : Addr} {oI oC oD : Obj} {J : Value → List (Addr × Obj) → Prop} {y : Value} {h' : Heap} {tk : Nat} {news' : List (Addr × Obj)} (F : Fr h₀ L h' m) (N : News h₀ L h' ((I, oI) :: (C, oC) :: (D, oD) :: news'))
    (o1 : ∀ p ∈ news', p.1 ≠ I) (o2 : ∀ p ∈ news', p.1 ≠ C) (o3 : ∀ p ∈ news', p.1 ≠ D) (hJ : J y news') : Stop (CEnd h₀ L m s I oI C oC D oD J y { s with heap := h', toks := tk }) := ⟨h', tk, news', rfl, F, N, ⟨o1, o2, o3⟩, hJ⟩
theorem comp_rest {elt : Expr} {x : Str} {scope : Scope} {cl : List (Str × Addr)} {P : Nat → Value → Prop} {Fin : List Value → List (Addr × Obj) → Prop} {n : Nat} (Inv : Nat → List Value → List (Addr × Obj) → Prop)
    (turn : ∀ i ys news v I oI C oC D m₂ h tk (E' : Value → Shared → Prop), i < n → Inv i ys news → P i v → NsObj oC m₂ → m₂ x = some v → Fr h₀ L h m → News h₀ L h ((I, oI) :: (C, oC) :: (D, lst ys) :: news) →
      ((∀ p ∈ news, p.1 ≠ I) ∧ (∀ p ∈ news, p.1 ≠ C) ∧ (∀ p ∈ news, p.1 ≠ D)) → ((@Ne Nat I C) ∧ (@Ne Nat I D) ∧ (@Ne Nat C D)) →
      wpAny (model prog w) A (eval elt (compEnvC scope cl C env)) (fun y s₂ => Stop (CEnd h₀ L m { s with heap := h, toks := tk } I oI C oC D (lst ys) (fun y news' => Inv (i + 1) (ys ++ [y]) news') y s₂)) E' { s with heap := h, toks := tk })
    (fin : ∀ ys news, Inv n ys news → Fin ys news) : ∀ k i ys news, i + k = n → Inv i ys news → CompRest prog w A h₀ L m env elt x scope cl s (fun _ => True) P Fin k i ys news
  | 0, i, ys, news, e, h => fin ys news (by rw [← e]; exact h)
  | k + 1, i, ys, news, e, hI => CompRest.succ fun v I oI C oC D m₂ h tk E' hP hC hm F N off ne => by
    have off' := off.mem
    refine wpAny_mono (turn i ys news v I oI C oC D m₂ h tk E' (by omega) hI hP hC hm F N ⟨fun p hp => (off' p hp).1, fun p hp => (off' p hp).2.1, fun p hp => (off' p hp).2.2⟩ ne) (fun y s₂ q => ?_) fun _ _ x => x
    unfold Stop at q
    obtain ⟨h', tk', news', rfl, F', N', ⟨o1, o2, o3⟩, hJ⟩ := q
    exact ⟨h', tk', news', rfl, F', N', Off3.of fun p hp => ⟨o1 p hp, o2 p hp, o3 p hp⟩, trivial, comp_rest Inv turn fin k (i + 1) _ _ (by omega) hJ⟩
end
def RatsUp (K : Frag) (tl : List (Addr × Obj)) (vs : List Value) (f : Nat → Rat) (n : Nat) : Prop := vs.length = n ∧ ∀ (j : Nat) v, vs[j]? = some v → RatIn K tl v (f j)
theorem RatsUp.nil {K : Frag} {tl : List (Addr × Obj)} {f : Nat → Rat} : RatsUp K tl [] f 0 := ⟨rfl, fun j v e => by simp at e⟩
theorem RatsUp.push {K : Frag} {tl tl' : List (Addr × Obj)} {vs : List Value} {f : Nat → Rat} {n : Nat} {v : Value} (h : RatsUp K tl vs f n) (hs : ∀ p ∈ tl, p ∈ tl') (hv : RatIn K tl' v (f n)) : RatsUp K tl' (vs ++ [v]) f (n + 1) := by
  refine ⟨by simp [h.1], fun j u e => ?_⟩
  by_cases hj : j < vs.length
  · rw [List.getElem?_append_left hj] at e
    exact (h.2 j u e).mono hs
  · rw [List.getElem?_append_right (by omega)] at e
    by_cases hj' : j = n
    · subst hj'
      rw [h.1, Nat.sub_self] at e
      have : v = u := by simpa using e
      exact this ▸ hv
    · have : 0 < j - vs.length := by have := h.1; omega
      rw [List.getElem?_eq_none (by simp; omega)] at e
      cases e
theorem RatsUp.rats {K : Frag} {tl : List (Addr × Obj)} {vs : List Value} {f : Nat → Rat} {n : Nat} {xs : List Rat} (h : RatsUp K tl vs f n) (hl : xs.length = n) (hx : ∀ i, i < n → f i = xs.getD i 0) : RatsIn K tl vs xs := by
  refine ⟨by rw [h.1, hl], fun i v e => ?_⟩
  have hi : i < vs.length := by
    by_cases hi : i < vs.length
    · exact hi
    · rw [List.getElem?_eq_none (by omega)] at e; cases e
  rw [← hx i (by have := h.1; omega)]
  exact h.2 i v e
theorem off1_mem {D : Addr} : ∀ {l : List (Addr × Obj)}, LCg.Off1 D l → ∀ p ∈ l, p.1 ≠ D
  | [], _, _, h => nomatch h
  | _ :: _, x, p, h => by
    rcases List.mem_cons.mp h with rfl | h
    · exact x.1
    · exact off1_mem x.2 p h
def smulS (xs ys : List Rat) : List Rat := (List.range (min xs.length ys.length)).map (mixedS xs ys)
theorem smulS_length (xs ys : List Rat) : (smulS xs ys).length = min xs.length ys.length := by simp [smulS]
theorem smulS_getD {xs ys : List Rat} {k : Nat} (h : k < min xs.length ys.length) : (smulS xs ys).getD k 0 = mixedS xs ys k := by
  simp [smulS, List.getD, List.getElem?_map, List.getElem?_range h]
theorem words17 : True := by
  k_with_none
  k_with "my sub" => first | assumption | (refine List.Mem.tail _ ?_; walk_at "sub") | (refine List.mem_append.mpr (Or.inl ?_); walk_at "sub") | (refine List.mem_append.mpr (Or.inr ?_); walk_at "sub")
  k_with "my subs" => (intro pqz hpqz; walk_at "sub")
  k_with "my use" => ( (case k1 => k_asm); (case k2 => k_asm); (case k3 => k_asm); (case k4 => k_asm); (case k5 => k_asm); (case kK => first | exact rfl | assumption); (case kd => ktr_room); (case ku => ktr_units))
  k_with "my pyIter ref" => (k_here; refine stop_intro ?_)
  k_with "my subscriptTail" => (k_here; (with_reducible show wpAny _ _ (subscriptTail _ _ (Value.ref _) (Value.int _ _)) _ _ _); k_dflt (refine' list_item ?k3 ?k4 ?k5 ?k7 ?k8 ?k9 ?_ ?k6; (case k4 => with_reducible assumption); (case k3 => k_asm); (case k5 => walk_at "subs"); (case k6 => with_unfolding_all rfl); (case k7 => omega); (case k8 => omega); (case k9 => omega); k_whole); intro b9qz hb9qz)
  k_with "my call builtin:len" => (k_here; (with_reducible show wpAny _ _ (call (Value.builtin "len") [Value.ref _]) _ _ _); k_dflt (refine' list_len ?k3 ?k4 ?k5 ?k7 ?_; (case k4 => with_reducible assumption); (case k3 => k_asm); (case k5 => walk_at "subs"); (case k7 => omega); k_whole); intro _ _)
  k_with "my rats" => first | with_reducible assumption | exact RatIn.mono (by with_reducible assumption) (by walk_at "subs") | exact r0_in | exact r1_in
  k_with "my compareOp NotEq ref ref" => (k_here; (with_reducible show wpAny _ _ (compareOp CmpOp.NotEq (Value.ref _) (Value.ref _)) _ _ _); k_dflt (refine' rat_ne ?k1 ?k2 ?k3 ?k4 ?k5 ?k6 ?k7 ?k8 ?_; (case k4 => with_reducible assumption); (case k6 => first | with_reducible assumption | exact r0_in (news := [])); (case k1 => k_asm); (case k2 => k_asm); (case k3 => k_asm); (case k5 => walk_at "subs"); (case k7 => first | exact List.forall_mem_nil _ | walk_at "subs"); (case k8 => exact units_room9 (by assumption) (by decide)); k_whole))
  k_with "my bd" => first | with_reducible assumption | exact Bd.zero | exact (by with_reducible assumption : Bds _ _) _ | exact Bd.mul (by walk_at "bd") (by walk_at "bd") | exact Bd.add (by walk_at "bd") (by walk_at "bd") | exact Bd.sub (by walk_at "bd") (by walk_at "bd")
  k_with "my bds" => exact Bd.mono (by walk_at "bd") (by omega)
  k_with "my call ref" => (k_here; (with_reducible show wpAny _ _ (call (Value.ref 64) [_, _]) _ _ _); k_dflt (refine' ctr_use (radd_ctr _ _ _ _) ?k1 ?k2 ?k3 ?k4 ?k5 ?kK ?kp ?kd ?ku ?_); walk_at "use"; (case kp => exact ⟨by walk_at "rats", by walk_at "rats", by walk_at "bds", by walk_at "bds"⟩); k_whole; intro r9qz tl9qz h9qz tk9qz F9qz N9qz fr9qz ho9qz; (simp only [List.cons_append, List.nil_append] at N9qz ho9qz); obtain ⟨a9qz, e9qz⟩ := RatIn.isRef ho9qz; subst e9qz; (try k_fold))
  k_with "my call ref" => (k_here; (with_reducible show wpAny _ _ (call (Value.ref 78) [_, _]) _ _ _); k_dflt (refine' ctr_use (rmul_ctr _ _ _ _) ?k1 ?k2 ?k3 ?k4 ?k5 ?kK ?kp ?kd ?ku ?_); walk_at "use"; (case kp => exact ⟨by walk_at "rats", by walk_at "rats", by walk_at "bds", by walk_at "bds"⟩); k_whole; intro r9qz tl9qz h9qz tk9qz F9qz N9qz fr9qz ho9qz; (simp only [List.cons_append, List.nil_append] at N9qz ho9qz); obtain ⟨a9qz, e9qz⟩ := RatIn.isRef ho9qz; subst e9qz; (try k_fold))
  k_with "my ff" => exact ff_n
  k_with "my ff" => (refine ff_c rfl ?_; walk_at "ff")
  k_with "my fg" => (intro yqz hyqz; (repeat' (first | (refine ifn_l (hyqz _ ?m9) ?_; (case m9 => walk_at "fm")) | (refine ifn_r (hyqz _ ?m9) ?_; (case m9 => walk_at "fm")) | fail)); rfl)
  k_with "my fm" => first | with_reducible exact List.mem_cons_self .. | (refine List.mem_cons_of_mem _ ?_; walk_at "fm")
  k_with "my frs" => first | exact Fresh.nil | assumption | (refine Fresh.both ?_ ?_ <;> walk_at "frs") | exact Fresh.anti (by assumption) (by walk_at "subs")
  k_with "my offs" => first | assumption | (refine off_app ?_ ?_ <;> walk_at "offs") | exact off_fresh (by assumption) (List.mem_cons_self ..)
  k_with "my CompSrc" => (k_here; refine stop_intro ?_)
  k_with "my enterC" => (refine' code_defC ?k1 ?k2 ?k3 ?k4 ?k5 ?kA ?kF ?kK ?k6 ?k7 ?k8 ?k9 ?kB ?kD ?_ ?c2 ?c3 ?c4; (case kA => exact rfl); (case kF => exact rfl); (case kK => assumption); (case k1 => k_asm); (case k2 => k_asm); (case k3 => k_asm); (case k4 => k_asm); (case k5 => k_asm); (case k6 => k_is); (case k7 => k_is); (case k8 => ktr_room); (case k9 => exact BindsTo.of_eq rfl); (case kB => exact rfl); (case kD => decide +kernel); (case c2 => exact rfl); (case c3 => exact rfl); (case c4 => exact rfl); k_whole; intro gpqz Lpqz hpqz tkpqz cellspqz FGpqz Fpqz Npqz Ypqz Bpqz Xpqz Tpqz l1qz; k_cells Ypqz; (try simp only [List.cons_append, List.nil_append] at Npqz); (try dsimp only); (try k_fold))
  k_with "my call ref" => (k_here; (with_reducible show wpAny _ _ (call (Value.ref 120) [_, _, _]) _ _ _); k_dflt (refine' ctr_use (mixed_ctr _ _ _ _ _ _) ?k1 ?k2 ?k3 ?k4 ?k5 ?kK ?kp ?kd ?ku ?_); walk_at "use"; (case kp => walk_at "pre120"); k_whole; intro r9qz tl9qz h9qz tk9qz F9qz N9qz fr9qz ho9qz; (simp only [List.cons_append, List.nil_append] at N9qz); obtain ⟨a9qz, e9qz⟩ := RatIn.isRef ho9qz; subst e9qz; (try k_fold))
  k_with "my call ref" => (k_here; (with_reducible show wpAny _ _ (call (Value.ref 113) [_]) _ _ _); k_dflt (refine' ctr_use (let_ctr _ _) ?k1 ?k2 ?k3 ?k4 ?k5 ?kK ?kp ?kd ?ku ?_); walk_at "use"; (case kp => exact ⟨by walk_at "rats", by assumption⟩); k_whole; intro r9qz tl9qz h9qz tk9qz F9qz N9qz fr9qz ho9qz; (simp only [List.cons_append, List.nil_append] at N9qz); subst ho9qz; (try k_fold))
  k_with "my lists" => first | with_reducible assumption | exact ListIn.mono (by with_reducible assumption) (by walk_at "subs")
  k_with "my pre120" => exact ⟨by walk_at "lists", by walk_at "lists", by omega, by omega, by omega, by omega, by assumption, by assumption⟩
  trivial
section
variable {w : World} {loose : List Str} {mean : ExcName → Option Value} {mg mb : Str → Option Value}
set_option maxHeartbeats 4000000 in
theorem smul_ctr (la lb : Addr) (xs ys : List Rat) : Ctr w loose mean mg mb 110 125 [.ref la, .ref lb]
    (fun news => ListIn (hd.heap_39 w.params) news la xs ∧ ListIn (hd.heap_39 w.params) news lb ys ∧ xs.length ≤ 100 ∧ ys.length ≤ 100 ∧ Bds 64 xs ∧ Bds 64 ys ∧ ∀ k, k < min xs.length ys.length → Small (mixedS xs ys k))
    (fun tl r => ∃ l, r = .ref l ∧ ListIn (hd.heap_39 w.params) tl l (smulS xs ys)) := by
  w_top off
  unfold Ctr
  intro dp un gd cn cs fa ccd cl outer A₀ base h₀ L m news s Q E B F X N T hk hpre hdp hu hret
  obtain ⟨ha, hb, h2, h3, hx, hy, hsm⟩ := hpre
  refine wpAny_call ?_
  k_dflt (walk_at "enterC")
  clear F
  rename ∀ p ∈ news, p.1 < _ => l1
  k_steps
  unfold Stop
  rename News _ _ _ _ => N2
  rename IsRange _ _ _ _ _ _ _ _ => R2
  have emin : (if (ys.length : Int) < xs.length then (ys.length : Int) else xs.length) = 0 + ((min xs.length ys.length : Nat) : Int) := by split <;> omega
  rw [emin] at R2
  refine LCg.CompSrc.range (n := min xs.length ys.length) rfl (by assumption) N2 R2 (small_one (by omega) (by omega) (by omega) (by omega)) (by rw [rangeSize_nat]; omega) (by rw [sizeLine_eq]; omega) fun g => ?_
  refine comp_rest (fun i vs n₁ => ∃ tl, n₁ = _ :: _ :: (news ++ tl) ∧ Fresh news tl ∧ RatsUp (hd.heap_39 w.params) tl vs (mixedS xs ys) i) ?_ ?_ _ 0 [] _ (Nat.zero_add _) ⟨[], by rw [List.append_nil], Fresh.nil, RatsUp.nil⟩
  · rintro i vs n₁ v I oI C oC D m₂ h tk E' hi ⟨tl, rfl, hfr, hall⟩ ⟨tv, hv⟩ hC hm F1 N1 ⟨o1, o2, o3⟩ ⟨n1, n2, n3⟩
    subst hv
    rw [Int.zero_add] at hm
    have hsmi := hsm i hi
    clear N2
    k_steps
    rename Fresh _ _ => f2
    rename Fresh (_ :: _ :: _ :: _ :: _ :: (news ++ tl)) _ => f1
    rename RatIn _ _ _ (mixedS _ _ _) => ho
    have p1 := off_app (off_app o1 (off_fresh f1 (List.mem_cons_self ..))) (off_fresh f2 (List.mem_cons_self ..))
    have p2 := off_app (off_app o2 (off_fresh f1 (List.mem_cons_of_mem _ (List.mem_cons_self ..)))) (off_fresh f2 (List.mem_cons_of_mem _ (List.mem_cons_self ..)))
    have p3 := off_app (off_app o3 (off_fresh f1 (List.mem_cons_of_mem _ (List.mem_cons_of_mem _ (List.mem_cons_self ..))))) (off_fresh f2 (List.mem_cons_of_mem _ (List.mem_cons_of_mem _ (List.mem_cons_self ..))))
    exact CEnd.mk (by assumption) (by assumption) p1 p2 p3 ⟨_, congrArg (fun x => _ :: _ :: x) app3, by walk_at "frs", hall.push (by walk_at "subs") (ho.mono (by walk_at "subs"))⟩
  · rintro vs n₁ ⟨tl, rfl, hfr, hall⟩
    clear N2
    k_steps
    rename _ ≠ _ ∧ _ ≠ _ ∧ LCg.Off1 _ _ => o1
    rename News _ _ _ _ => N3
    exact hret _ ((_, LCg.lst vs) :: tl) _ _ (by assumption) (cb_drop N3 (fun p hp => by simp only [List.mem_append, List.mem_cons] at hp ⊢; grind)) (Fresh.consr (fun q hq => off1_mem o1.2.2 q (List.mem_append_left _ hq)) hfr)
      ⟨_, rfl, vs, _, List.mem_cons_self .., (hall.rats (smulS_length xs ys) (fun i hi => (smulS_getD hi).symm)).mono (by walk_at "subs")⟩
end
theorem words18 : True := by
  k_with_none
  trivial
-- A9
section
variable {prog : Program} {w : World} {A : Around} {E : Value → Shared → Prop} {s : Shared} {K : Frag} {a b L : Addr} {h₀ : Heap} {m : Str → Option Value} {news news₀ news₁ : List (Addr × Obj)} {x y : Rat} {Q : Value → Shared → Prop}
theorem rat_eq (F : Fr h₀ L s.heap m) (X : K.In h₀) (N : News h₀ L s.heap news) (hx : RatIn K news₀ (.ref a) x) (hs : ∀ p ∈ news₀, p ∈ news) (hy : RatIn K news₁ (.ref b) y) (hs' : ∀ p ∈ news₁, p ∈ news) (hu : A.units + 64 < cLine)
    (h : Q (.bool (decide (x = y))) s) : wpAny (model prog w) A (compareOp .Eq (.ref a) (.ref b)) Q E s := by
  obtain ⟨as, ra⟩ := (hx.mono hs).reads F X N
  obtain ⟨bs, rb⟩ := (hy.mono hs').reads F X N
  exact eq_dataH ra rb (rat_shaped x) (rat_shaped y) hu (by rw [rat_eqv]; exact h)
end
def subTo (xs f : List Rat) (n : Nat) (c : Rat) : Nat → Rat
  | 0 => c
  | k + 1 => subTo xs f n c k - xs.getD (k + 1) 0 * f.getD (n - (k + 1)) 0
mutual
def invL (xs : List Rat) : Nat → List Rat
  | 0 => []
  | n + 1 => invL xs n ++ [subTo xs (invL xs n) n (if n = 0 then 1 else 0) n / xs.getD 0 0]
end
def invE (xs : List Rat) (n : Nat) : Rat := subTo xs (invL xs n) n (if n = 0 then 1 else 0) n / xs.getD 0 0
theorem invL_succ (xs : List Rat) (n : Nat) : invL xs (n + 1) = invL xs n ++ [invE xs n] := rfl
theorem invL_length (xs : List Rat) : ∀ n, (invL xs n).length = n
  | 0 => rfl
  | n + 1 => by rw [invL_succ, List.length_append, invL_length xs n]; rfl
theorem invL_getD (xs : List Rat) : ∀ n i, i < n → (invL xs n).getD i 0 = invE xs i
  | 0, _, h => absurd h (Nat.not_lt_zero _)
  | n + 1, i, h => by
    rw [invL_succ]
    by_cases hi : i < n
    · rw [← invL_getD xs n i hi]
      simp only [List.getD, List.getElem?_append_left (show i < (invL xs n).length by rw [invL_length]; exact hi)]
    · have : i = n := by omega
      subst this
      simp [List.getD, List.getElem?_append_right, invL_length]
theorem Small.bd {x : Rat} (h : Small x) : Bd 64 x := ⟨intBits_le_iff.mpr h.1, intBits_le_iff.mpr h.2⟩
theorem getD_bd {xs : List Rat} {n : Nat} (h : ∀ i, i < xs.length → Bd n (xs.getD i 0)) (hn : 1 ≤ n) : Bds n xs := fun i => by
  by_cases hi : i < xs.length
  · exact h i hi
  · have e : xs.getD i 0 = 0 := by simp [List.getD, List.getElem?_eq_none (Nat.not_lt.mp hi)]
    rw [e]
    exact Bd.zero.mono hn
theorem Bd.one : Bd 1 1 := by constructor <;> decide
theorem subTo_bd {xs f : List Rat} (hx : Bds 64 xs) (hf : Bds 64 f) (n : Nat) {c : Rat} (hc : Bd 1 c) : ∀ k, Bd (1 + 129 * k) (subTo xs f n c k)
  | 0 => hc
  | k + 1 => (Bd.sub (subTo_bd hx hf n hc k) (Bd.mul (hx (k + 1)) (hf (n - (k + 1))))).mono (by omega)
local macro_rules | `(tactic| k_all) => `(tactic| walk_at "offs")
theorem words19 : True := by
  k_with_none
  k_with "my memD" => first | exact List.mem_cons_self .. | (refine List.mem_cons_of_mem _ ?_; walk_at "memD")
  k_with "my sub" => first | assumption | (refine List.Mem.tail _ ?_; walk_at "sub") | (refine List.mem_append.mpr (Or.inl ?_); walk_at "sub") | (refine List.mem_append.mpr (Or.inr ?_); walk_at "sub")
  k_with "my subs" => (intro pqz hpqz; first | walk_at "sub" | (simp only [List.mem_append, List.mem_cons] at hpqz ⊢; (repeat' (refine Or.elim hpqz (fun hpqz => ?_) (fun hpqz => ?_))) <;> simp only [hpqz, eq_self, true_or, or_true]))
  k_with "my use" => ( (case k1 => k_asm); (case k2 => k_asm); (case k3 => k_asm); (case k4 => k_asm); (case k5 => k_asm); (case kK => first | exact rfl | assumption); (case kd => ktr_room); (case ku => ktr_units))
  k_with "my pyIter ref" => (k_here; refine stop_intro ?_)
  k_with "my subscriptTail" => (k_here; (with_reducible show wpAny _ _ (subscriptTail _ _ (Value.ref _) (Value.int _ _)) _ _ _); k_dflt (refine' list_item ?k3 ?k4 ?k5 ?k7 ?k8 ?k9 ?_ ?k6; (case k4 => with_reducible assumption); (case k3 => k_asm); (case k5 => walk_at "subs"); (case k6 => with_unfolding_all rfl); (case k7 => omega); (case k8 => omega); (case k9 => omega); k_whole); intro b9qz hb9qz)
  k_with "my call builtin:len" => (k_here; (with_reducible show wpAny _ _ (call (Value.builtin "len") [Value.ref _]) _ _ _); k_dflt (refine' list_len ?k3 ?k4 ?k5 ?k7 ?_; (case k4 => with_reducible assumption); (case k3 => k_asm); (case k5 => walk_at "subs"); (case k7 => omega); k_whole); intro _ _)
  k_with "my rats" => first | with_reducible assumption | exact RatIn.mono (by with_reducible assumption) (by walk_at "subs") | exact r0_in | exact r1_in
  k_with "my compareOp NotEq ref ref" => (k_here; (with_reducible show wpAny _ _ (compareOp CmpOp.NotEq (Value.ref _) (Value.ref _)) _ _ _); k_dflt (refine' rat_ne ?k1 ?k2 ?k3 ?k4 ?k5 ?k6 ?k7 ?k8 ?_; (case k4 => with_reducible assumption); (case k6 => first | with_reducible assumption | exact r0_in (news := [])); (case k1 => k_asm); (case k2 => k_asm); (case k3 => k_asm); (case k5 => walk_at "subs"); (case k7 => first | exact List.forall_mem_nil _ | walk_at "subs"); (case k8 => exact units_room9 (by assumption) (by decide)); k_whole))
  k_with "my bd" => first | with_reducible assumption | exact Bd.zero | exact (by with_reducible assumption : Bds _ _) _ | exact Bd.mul (by walk_at "bd") (by walk_at "bd") | exact Bd.add (by walk_at "bd") (by walk_at "bd") | exact Bd.sub (by walk_at "bd") (by walk_at "bd")
  k_with "my bds" => exact Bd.mono (by walk_at "bd") (by omega)
  k_with "my call ref" => (k_here; (with_reducible show wpAny _ _ (call (Value.ref 64) [_, _]) _ _ _); k_dflt (refine' ctr_use (radd_ctr _ _ _ _) ?k1 ?k2 ?k3 ?k4 ?k5 ?kK ?kp ?kd ?ku ?_); walk_at "use"; (case kp => exact ⟨by walk_at "rats", by walk_at "rats", by walk_at "bds", by walk_at "bds"⟩); k_whole; intro r9qz tl9qz h9qz tk9qz F9qz N9qz fr9qz ho9qz; (simp only [List.cons_append, List.nil_append] at N9qz ho9qz); obtain ⟨a9qz, e9qz⟩ := RatIn.isRef ho9qz; subst e9qz; (try k_fold))
  k_with "my call ref" => (k_here; (with_reducible show wpAny _ _ (call (Value.ref 78) [_, _]) _ _ _); k_dflt (refine' ctr_use (rmul_ctr _ _ _ _) ?k1 ?k2 ?k3 ?k4 ?k5 ?kK ?kp ?kd ?ku ?_); walk_at "use"; (case kp => exact ⟨by walk_at "rats", by walk_at "rats", by walk_at "bds", by walk_at "bds"⟩); k_whole; intro r9qz tl9qz h9qz tk9qz F9qz N9qz fr9qz ho9qz; (simp only [List.cons_append, List.nil_append] at N9qz ho9qz); obtain ⟨a9qz, e9qz⟩ := RatIn.isRef ho9qz; subst e9qz; (try k_fold))
  k_with "my ff" => exact ff_n
  k_with "my ff" => (refine ff_c rfl ?_; walk_at "ff")
  k_with "my fg" => (intro yqz hyqz; (repeat' (first | (refine ifn_l (hyqz _ ?m9) ?_; (case m9 => walk_at "fm")) | (refine ifn_r (hyqz _ ?m9) ?_; (case m9 => walk_at "fm")) | fail)); rfl)
  k_with "my fm" => first | with_reducible exact List.mem_cons_self .. | (refine List.mem_cons_of_mem _ ?_; walk_at "fm")
  k_with "my frs" => first | assumption | ((repeat' (refine Fresh.both ?_ ?_)); all_goals (first | assumption | exact Fresh.nil | exact Fresh.anti (by assumption) (by walk_at "subs")))
  k_with "my offs" => first | assumption | ((repeat' (first | refine off_app ?_ ?_ | refine off_cons ?_ ?_)); all_goals (first | assumption | exact off_fresh (by assumption) (by walk_at "memD") | exact off_anti (by assumption) (by walk_at "subs") | exact off_head (by assumption) (by walk_at "memD") | exact Ne.symm (by assumption)))
  k_with "my enterC" => (refine' code_defC ?k1 ?k2 ?k3 ?k4 ?k5 ?kA ?kF ?kK ?k6 ?k7 ?k8 ?k9 ?kB ?kD ?_ ?c2 ?c3 ?c4; (case kA => exact rfl); (case kF => exact rfl); (case kK => assumption); (case k1 => k_asm); (case k2 => k_asm); (case k3 => k_asm); (case k4 => k_asm); (case k5 => k_asm); (case k6 => k_is); (case k7 => k_is); (case k8 => ktr_room); (case k9 => exact BindsTo.of_eq rfl); (case kB => exact rfl); (case kD => decide +kernel); (case c2 => exact rfl); (case c3 => exact rfl); (case c4 => exact rfl); k_whole; intro gpqz Lpqz hpqz tkpqz cellspqz FGpqz Fpqz Npqz Ypqz Bpqz Xpqz Tpqz l1qz; k_cells Ypqz; (try simp only [List.cons_append, List.nil_append] at Npqz); (try dsimp only); (try k_fold))
  k_with "my call ref" => (k_here; (with_reducible show wpAny _ _ (call (Value.ref 120) [_, _, _]) _ _ _); k_dflt (refine' ctr_use (mixed_ctr _ _ _ _ _ _) ?k1 ?k2 ?k3 ?k4 ?k5 ?kK ?kp ?kd ?ku ?_); walk_at "use"; (case kp => walk_at "pre120"); k_whole; intro r9qz tl9qz h9qz tk9qz F9qz N9qz fr9qz ho9qz; (simp only [List.cons_append, List.nil_append] at N9qz); obtain ⟨a9qz, e9qz⟩ := RatIn.isRef ho9qz; subst e9qz; (try k_fold))
  k_with "my call ref" => (k_here; (with_reducible show wpAny _ _ (call (Value.ref 113) [_]) _ _ _); k_dflt (refine' ctr_use (let_ctr _ _) ?k1 ?k2 ?k3 ?k4 ?k5 ?kK ?kp ?kd ?ku ?_); walk_at "use"; (case kp => exact ⟨by walk_at "rats", by assumption⟩); k_whole; intro r9qz tl9qz h9qz tk9qz F9qz N9qz fr9qz ho9qz; (simp only [List.cons_append, List.nil_append] at N9qz); subst ho9qz; (try k_fold))
  k_with "my lists" => first | with_reducible assumption | exact ListIn.mono (by with_reducible assumption) (by walk_at "subs")
  k_with "my pre120" => exact ⟨by walk_at "lists", by walk_at "lists", by omega, by omega, by omega, by omega, by assumption, by assumption⟩
  k_with "my call ref" => (k_here; (with_reducible show wpAny _ _ (call (Value.ref 71) [_, _]) _ _ _); k_dflt (refine' ctr_use (rsub_ctr _ _ _ _) ?k1 ?k2 ?k3 ?k4 ?k5 ?kK ?kp ?kd ?ku ?_); walk_at "use"; (case kp => exact ⟨by walk_at "rats", by walk_at "rats", by walk_at "bds", by walk_at "bds"⟩); k_whole; intro r9qz tl9qz h9qz tk9qz F9qz N9qz fr9qz ho9qz; (simp only [List.cons_append, List.nil_append] at N9qz); obtain ⟨a9qz, e9qz⟩ := RatIn.isRef ho9qz; subst e9qz; (try k_fold))
  k_with "my call ref" => (k_here; (with_reducible show wpAny _ _ (call (Value.ref 85) [_, _]) _ _ _); k_dflt (refine' ctr_use (rdiv_ctr _ _ _ _) ?k1 ?k2 ?k3 ?k4 ?k5 ?kK ?kp ?kd ?ku ?_); walk_at "use"; (case kp => exact ⟨by walk_at "rats", by walk_at "rats", by walk_at "bds", by walk_at "bds", by assumption⟩); k_whole; intro r9qz tl9qz h9qz tk9qz F9qz N9qz fr9qz ho9qz; (simp only [List.cons_append, List.nil_append] at N9qz); obtain ⟨a9qz, e9qz⟩ := RatIn.isRef ho9qz; subst e9qz; (try k_fold))
  k_with "my compareOp Eq ref ref" => (k_here; (with_reducible show wpAny _ _ (compareOp CmpOp.Eq (Value.ref _) (Value.ref _)) _ _ _); k_dflt (refine' rat_eq ?k1 ?k2 ?k3 ?k4 ?k5 ?k6 ?k7 ?k8 ?_; (case k4 => with_reducible assumption); (case k6 => first | with_reducible assumption | exact r0_in (news := [])); (case k1 => k_asm); (case k2 => k_asm); (case k3 => k_asm); (case k5 => walk_at "subs"); (case k7 => first | exact List.forall_mem_nil _ | walk_at "subs"); (case k8 => exact units_room9 (by assumption) (by decide)); k_whole))
  k_with "my call builtin:list.append" => (k_here; (with_reducible show wpAny _ _ (call (Value.builtin _) [Value.ref _, _]) _ _ _); k_dflt (refine' append_K ?k1 ?k2 ?k3 ?_ ?z; (case k1 => k_asm); (case k2 => k_asm); (case k3 => first | exact Upd.head (by walk_at "offs") | exact Upd.tail (by first | assumption | exact Ne.symm (by assumption)) (Upd.head (by walk_at "offs"))); (case z => assumption); k_whole); intro hpqz Fpqz Npqz; (simp only [List.push_toArray] at Npqz); (try k_sweep))
  trivial
section
variable {w : World} {loose : List Str} {mean : ExcName → Option Value} {mg mb : Str → Option Value}
set_option maxHeartbeats 8000000 in
theorem sinverse_ctr (la : Addr) (xs : List Rat) : Ctr w loose mean mg mb 110 132 [.ref la]
    (fun news => ListIn (hd.heap_39 w.params) news la xs ∧ 0 < xs.length ∧ xs.length ≤ 100 ∧ Bds 64 xs ∧ xs.getD 0 0 ≠ 0 ∧ ∀ k, k < xs.length → Small (invE xs k))
    (fun tl r => ∃ l, r = .ref l ∧ ListIn (hd.heap_39 w.params) tl l (invL xs xs.length)) := by
  w_top off
  unfold Ctr
  intro dp un gd cn cs fa ccd cl outer A₀ base h₀ L m news s Q E B F X N T hk hpre hdp hu hret
  obtain ⟨ha, hl0, h2, hx, hne, hsm⟩ := hpre
  refine wpAny_call ?_
  k_dflt ktr_enter
  rename Fr _ _ _ _ => F1
  replace F1 := fr_entry F1 [(Str.ofString "a", .ref la)] rfl
  simp only [kstB] at F1
  clear F
  k_steps
  · exact absurd (by assumption) hne
  unfold Stop
  rename Fr _ _ _ _ => F2
  rename News _ _ _ _ => N2
  rename ∀ p ∈ news, p.1 < _ => l1
  refine for_range (n := xs.length) (fun i m₁ n₁ => ∃ D vs c u1 u2 u3 tl, m₁ = (fun y => if y = Str.ofString "at" then u1 else if y = Str.ofString "total" then u2 else if y = Str.ofString "spot" then u3 else if y = Str.ofString "found" then some (.ref D) else if y = Str.ofString "a" then some (.ref la) else none) ∧ n₁ = (D, listOf vs.toArray c) :: (news ++ tl) ∧ Fresh news tl ∧ (∀ p ∈ news ++ tl, p.1 ≠ D) ∧ RatsUp (hd.heap_39 w.params) tl vs (invE xs) i) rfl (by assumption) (small_one (by omega) (by omega) (by omega) (by omega)) (rangeSize_nat _ _) F2 N2 ?_ ?_ ?_
  · exact ⟨_, [], 0, none, none, none, [], map_ext [Str.ofString "at", Str.ofString "total", Str.ofString "spot", Str.ofString "found", Str.ofString "a"] (by walk_at "ff") (by walk_at "fg"), by rw [List.append_nil], Fresh.nil, by rw [List.append_nil]; exact fun p hp => Nat.ne_of_lt (l1 p hp), RatsUp.nil⟩
  · rintro i ti m₁ n₁ h tk I it hi ⟨D, vs, c, u1, u2, u3, tl, rfl, rfl, hfr, hoffD, hall⟩ hit hoff F1 N1
    intro Rz hend
    clear F2 N2
    have hlenf := invL_length xs i
    have hID : @Ne Nat I D := fun e => hoff _ (List.mem_cons_self ..) e.symm
    have hD : ListIn (hd.heap_39 w.params) ((D, listOf vs.toArray c) :: tl) D (invL xs i) := ⟨vs, c, List.mem_cons_self .., (hall.rats hlenf (fun j hj => (invL_getD xs i j hj).symm)).mono (by walk_at "subs")⟩
    have hbd : Bds 64 (invL xs i) := getD_bd (fun j hj => by rw [hlenf] at hj; rw [invL_getD xs i j hj]; exact (hsm j (by omega)).bd) (by decide)
    have hc1 : Bd 1 (if i = 0 then (1 : Rat) else 0) := by split; exact Bd.one; exact Bd.zero
    have hsmi := hsm i hi
    have hvz : vs.toArray.size ≤ sizeLine := by rw [sizeLine_eq, List.size_toArray, hall.1]; omega
    k_steps
    · unfold Stop
      rename Fr _ _ _ _ => F2
      rename News _ _ _ _ => N2
      refine for_range (n := i) (fun j m₂ n₂ => ∃ tv u3 tl2, m₂ = (fun y => if y = Str.ofString "spot" then u3 else if y = Str.ofString "total" then some (.ref tv) else if y = Str.ofString "at" then some (.int (0 + i) ti) else if y = Str.ofString "found" then some (.ref D) else if y = Str.ofString "a" then some (.ref la) else none) ∧ n₂ = (I, it) :: (D, listOf vs.toArray c) :: (news ++ tl ++ tl2) ∧ Fresh ((I, it) :: (D, listOf vs.toArray c) :: (news ++ tl)) tl2 ∧ RatIn (hd.heap_39 w.params) tl2 (.ref tv) (subTo xs (invL xs i) i (if i = 0 then 1 else 0) j)) rfl (by assumption) (small_one (by omega) (by omega) (by omega) (by omega)) (by rw [rangeSize_nat]; omega) F2 N2 ?_ ?_ ?_
      · exact ⟨_, _, [], map_ext [Str.ofString "at", Str.ofString "total", Str.ofString "spot", Str.ofString "found", Str.ofString "a"] (by walk_at "ff") (by walk_at "fg"), by rw [List.append_nil], Fresh.nil, by rw [if_pos (by omega)]; exact r1_in⟩
      · rintro j tj m₂ n₂ h' tk' I2 it2 hj
        exact absurd hj (by omega)
      · rintro m₂ n₂ h' tk' ⟨tv, u3', tl2, rfl, rfl, hfr2, hf⟩ F3 N3
        clear F2 N2
        have hbf := (subTo_bd hx hbd i hc1 i).mono (m := 100000) (by omega)
        k_steps
        rename RatIn _ _ _ (_ / _) => ho
        exact hend _ _ _ _ (by assumption) (by assumption) (by walk_at "offs") ⟨_, _, _, _, _, _, _, map_ext [Str.ofString "at", Str.ofString "total", Str.ofString "spot", Str.ofString "found", Str.ofString "a"] (by walk_at "ff") (by walk_at "fg"), congrArg (fun x => _ :: x) app4, by walk_at "frs", by walk_at "offs", hall.push (by walk_at "subs") (ho.mono (by walk_at "subs"))⟩
    · unfold Stop
      rename Fr _ _ _ _ => F2
      rename News _ _ _ _ => N2
      refine for_range (n := i) (fun j m₂ n₂ => ∃ tv u3 tl2, m₂ = (fun y => if y = Str.ofString "spot" then u3 else if y = Str.ofString "total" then some (.ref tv) else if y = Str.ofString "at" then some (.int (0 + i) ti) else if y = Str.ofString "found" then some (.ref D) else if y = Str.ofString "a" then some (.ref la) else none) ∧ n₂ = (I, it) :: (D, listOf vs.toArray c) :: (news ++ tl ++ tl2) ∧ Fresh ((I, it) :: (D, listOf vs.toArray c) :: (news ++ tl)) tl2 ∧ RatIn (hd.heap_39 w.params) tl2 (.ref tv) (subTo xs (invL xs i) i (if i = 0 then 1 else 0) j)) rfl (by assumption) (small_one (by omega) (by omega) (by omega) (by omega)) (by rw [rangeSize_nat]; omega) F2 N2 ?_ ?_ ?_
      · exact ⟨_, _, [], map_ext [Str.ofString "at", Str.ofString "total", Str.ofString "spot", Str.ofString "found", Str.ofString "a"] (by walk_at "ff") (by walk_at "fg"), by rw [List.append_nil], Fresh.nil, by rw [if_neg (by omega)]; exact r0_in⟩
      · rintro j tj m₂ n₂ h' tk' I2 it2 hj ⟨tv, u3', tl2, rfl, rfl, hfr2, hf⟩ hit2 hoff2 F3 N3
        intro Rz hend
        clear F2 N2
        have hbf := (subTo_bd hx hbd i hc1 j).mono (m := 100000) (by omega)
        have e1 : ((1 : Int) + j).toNat = j + 1 := by omega
        have e2 : ((0 : Int) + i - (1 + j)).toNat = i - (j + 1) := by omega
        k_steps
        rename RatIn _ _ _ (subTo _ _ _ _ _ - _) => ho
        rw [e1, e2] at ho
        exact hend _ _ _ _ (by assumption) (by assumption) (by walk_at "offs") ⟨_, _, _, map_ext [Str.ofString "at", Str.ofString "total", Str.ofString "spot", Str.ofString "found", Str.ofString "a"] (by walk_at "ff") (by walk_at "fg"), congrArg (fun x => _ :: _ :: x) app3, by walk_at "frs", ho.mono (by walk_at "subs")⟩
      · rintro m₂ n₂ h' tk' ⟨tv, u3', tl2, rfl, rfl, hfr2, hf⟩ F3 N3
        clear F2 N2
        have hbf := (subTo_bd hx hbd i hc1 i).mono (m := 100000) (by omega)
        k_steps
        rename RatIn _ _ _ (_ / _) => ho
        exact hend _ _ _ _ (by assumption) (by assumption) (by walk_at "offs") ⟨_, _, _, _, _, _, _, map_ext [Str.ofString "at", Str.ofString "total", Str.ofString "spot", Str.ofString "found", Str.ofString "a"] (by walk_at "ff") (by walk_at "fg"), congrArg (fun x => _ :: x) app4, by walk_at "frs", by walk_at "offs", hall.push (by walk_at "subs") (ho.mono (by walk_at "subs"))⟩
  · rintro m₁ n₁ h tk ⟨D, vs, c, u1, u2, u3, tl, rfl, rfl, hfr, hoffD, hall⟩ F1 N1
    clear F2 N2
    k_steps
    exact hret _ ((D, listOf vs.toArray c) :: tl) _ _ (by assumption) (ktn_tl2 (by assumption)) (Fresh.consr (fun q hq => hoffD q (List.mem_append_left _ hq)) hfr)
      ⟨_, rfl, vs, c, List.mem_cons_self .., (hall.rats (invL_length xs _) (fun i hi => (invL_getD xs _ i hi).symm)).mono (by walk_at "subs")⟩
end
theorem words20 : True := by
  k_with_none
  trivial
-- A10
theorem rep_one (v : Value) : ∀ (k : Nat) (acc : Array Value), List.foldl (fun x1 x2 => x1 ++ x2) acc (List.replicate k #[v]) = acc ++ (List.replicate k v).toArray
  | 0, acc => by simp
  | k + 1, acc => by
    rw [List.replicate_succ, List.foldl_cons, rep_one v k, List.replicate_succ]
    apply Array.toList_inj.mp
    simp
theorem rep_key {v : Value} {n : Nat} (its : Array Value) (k : Nat) (h1 : its = #[v]) (h2 : k = n) : List.foldl (fun x1 x2 => x1 ++ x2) #[] (List.replicate (if its.isEmpty = true then 0 else k) its) = (List.replicate n v).toArray := by
  subst h1; subst h2
  rw [if_neg (by simp), rep_one]
  simp
def pickR (xs : List Rat) (lo hi : Option Int) : List Rat := (xs.drop (kms_lo lo xs.length)).take (kms_hi hi xs.length - kms_lo lo xs.length)
theorem RatsIn.pick {K : Frag} {news : List (Addr × Obj)} {vs : List Value} {xs : List Rat} (h : RatsIn K news vs xs) (lo hi : Option Int) : RatsIn K news (kms_pick vs lo hi) (pickR xs lo hi) := by
  unfold kms_pick pickR
  rw [h.1]
  refine ⟨by simp [h.1], fun i v e => ?_⟩
  rw [List.getElem?_take] at e
  split at e
  · rename_i hi
    rw [List.getElem?_drop] at e
    have := h.2 _ v e
    simpa [List.getD, List.getElem?_take, hi] using this
  · cases e
section
variable {prog : Program} {w : World} {A : Around} {E : Value → Shared → Prop} {s : Shared} {K : Frag} {a D L : Addr} {h₀ : Heap} {m : Str → Option Value} {news news' news₀ : List (Addr × Obj)} {xs : List Rat} {value slice : Expr} {k : Int} {t u : Tok} {vl vu : Value} {lo hi : Option Int}
theorem list_slice {Q : Value → Shared → Prop} (F : Fr h₀ L s.heap m) (N : News h₀ L s.heap news) (hx : ListIn K news₀ a xs) (hs : ∀ p ∈ news₀, p ∈ news) (pl : IsPart vl lo) (pu : IsPart vu hi) (hz : xs.length ≤ 100)
    (h : ∀ D h' vs', Fr h₀ L h' m → News h₀ L h' ((D, listOf vs'.toArray 0) :: news) → (∀ p ∈ news, p.1 < D) → RatsIn K news₀ vs' (pickR xs lo hi) → Q (.ref D) { s with heap := h' })
    (hsu : subscripted slice false (.ref a) (.ref s.heap.objs.size) = operate [.ref s.heap.objs.size, .ref a] (getItem (.ref a) (.ref s.heap.objs.size))) (ht : ∀ r, letTemporaryGo value (.ref a) r = pure ()) :
    wpAny (model prog w) A (subscriptTail value slice (.ref a) (.ref s.heap.objs.size)) Q E { s with heap := s.heap.push { cls := .type "slice", data := .fields #[vl, vu, .none] } } := by
  obtain ⟨vs, c, h1, h2⟩ := id hx
  have hl : s.heap.IsList a vs.toArray := ⟨_, (N _ (hs _ h1)).1, rfl, c, rfl⟩
  exact kms_slice_lit F N hl pl pu rfl (fun D h' F' N' l1 => h D h' _ F' N' l1 (h2.pick lo hi)) hsu ht (by rw [sizeLine_eq, List.size_toArray, h2.1]; omega)
theorem list_set {Q : Unit → Shared → Prop} {vs : List Value} {n : Nat} {v : Value} (F : Fr h₀ L s.heap m) (N : News h₀ L s.heap news) (U : Upd D (listOf vs.toArray n) (listOf (vs.set k.toNat v).toArray n) news news') (h0 : 0 ≤ k) (h1 : k < vs.length) (hfit : k < 2 ^ 63)
    (h : ∀ h', Fr h₀ L h' m → News h₀ L h' news' → Q () { s with heap := h' }) :
    wpAny (model prog w) A (setItem (.ref D) (.int k t) v) Q E s := by
  obtain ⟨pre, post, rfl, rfl, a, b⟩ := U.split
  have z := N (D, listOf vs.toArray n) (List.mem_append.mpr (.inr (.head _)))
  refine ki_setAt z.1 h0 hfit (by rw [List.size_toArray]; exact h1) (h _ (F.change (Heap.SameBut.update ..) z.2.1 z.2.2) (ki_turn _ N a b ?_ ?_))
  · show vs.toArray.setIfInBounds k.toNat v = (vs.set k.toNat v).toArray
    apply Array.toList_inj.mp
    simp
  · simp
end
theorem words21 : True := by
  k_with_none
  k_with "my memD" => first | exact List.mem_cons_self .. | (refine List.mem_cons_of_mem _ ?_; walk_at "memD")
  k_with "my sub" => first | assumption | (refine List.Mem.tail _ ?_; walk_at "sub") | (refine List.mem_append.mpr (Or.inl ?_); walk_at "sub") | (refine List.mem_append.mpr (Or.inr ?_); walk_at "sub")
  k_with "my subs" => (intro pqz hpqz; first | walk_at "sub" | (simp only [List.mem_append, List.mem_cons] at hpqz ⊢; (repeat' (refine Or.elim hpqz (fun hpqz => ?_) (fun hpqz => ?_))) <;> simp only [hpqz, eq_self, true_or, or_true]))
  k_with "my use" => ( (case k1 => k_asm); (case k2 => k_asm); (case k3 => k_asm); (case k4 => k_asm); (case k5 => k_asm); (case kK => first | exact rfl | assumption); (case kd => ktr_room); (case ku => ktr_units))
  k_with "my pyIter ref" => (k_here; refine stop_intro ?_)
  k_with "my subscriptTail" => (k_here; (with_reducible show wpAny _ _ (subscriptTail _ _ (Value.ref _) (Value.int _ _)) _ _ _); k_dflt (refine' list_item ?k3 ?k4 ?k5 ?k7 ?k8 ?k9 ?_ ?k6; (case k4 => with_reducible assumption); (case k3 => k_asm); (case k5 => walk_at "subs"); (case k6 => with_unfolding_all rfl); (case k7 => omega); (case k8 => omega); (case k9 => omega); k_whole); intro b9qz hb9qz)
  k_with "my call builtin:len" => (k_here; (with_reducible show wpAny _ _ (call (Value.builtin "len") [Value.ref _]) _ _ _); k_dflt (refine' list_len ?k3 ?k4 ?k5 ?k7 ?_; (case k4 => with_reducible assumption); (case k3 => k_asm); (case k5 => walk_at "subs"); (case k7 => omega); k_whole); intro _ _)
  k_with "my rats" => first | with_reducible assumption | exact RatIn.mono (by with_reducible assumption) (by walk_at "subs") | exact r0_in | exact r1_in
  k_with "my compareOp NotEq ref ref" => (k_here; (with_reducible show wpAny _ _ (compareOp CmpOp.NotEq (Value.ref _) (Value.ref _)) _ _ _); k_dflt (refine' rat_ne ?k1 ?k2 ?k3 ?k4 ?k5 ?k6 ?k7 ?k8 ?_; (case k4 => with_reducible assumption); (case k6 => first | with_reducible assumption | exact r0_in (news := [])); (case k1 => k_asm); (case k2 => k_asm); (case k3 => k_asm); (case k5 => walk_at "subs"); (case k7 => first | exact List.forall_mem_nil _ | walk_at "subs"); (case k8 => exact units_room9 (by assumption) (by decide)); k_whole))
  k_with "my bd" => first | with_reducible assumption | exact Bd.zero | exact (by with_reducible assumption : Bds _ _) _ | exact Bd.mul (by walk_at "bd") (by walk_at "bd") | exact Bd.add (by walk_at "bd") (by walk_at "bd") | exact Bd.sub (by walk_at "bd") (by walk_at "bd")
  k_with "my bds" => exact Bd.mono (by walk_at "bd") (by omega)
  k_with "my call ref" => (k_here; (with_reducible show wpAny _ _ (call (Value.ref 64) [_, _]) _ _ _); k_dflt (refine' ctr_use (radd_ctr _ _ _ _) ?k1 ?k2 ?k3 ?k4 ?k5 ?kK ?kp ?kd ?ku ?_); walk_at "use"; (case kp => exact ⟨by walk_at "rats", by walk_at "rats", by walk_at "bds", by walk_at "bds"⟩); k_whole; intro r9qz tl9qz h9qz tk9qz F9qz N9qz fr9qz ho9qz; (simp only [List.cons_append, List.nil_append] at N9qz ho9qz); obtain ⟨a9qz, e9qz⟩ := RatIn.isRef ho9qz; subst e9qz; (try k_fold))
  k_with "my call ref" => (k_here; (with_reducible show wpAny _ _ (call (Value.ref 78) [_, _]) _ _ _); k_dflt (refine' ctr_use (rmul_ctr _ _ _ _) ?k1 ?k2 ?k3 ?k4 ?k5 ?kK ?kp ?kd ?ku ?_); walk_at "use"; (case kp => exact ⟨by walk_at "rats", by walk_at "rats", by walk_at "bds", by walk_at "bds"⟩); k_whole; intro r9qz tl9qz h9qz tk9qz F9qz N9qz fr9qz ho9qz; (simp only [List.cons_append, List.nil_append] at N9qz ho9qz); obtain ⟨a9qz, e9qz⟩ := RatIn.isRef ho9qz; subst e9qz; (try k_fold))
  k_with "my ff" => exact ff_n
  k_with "my ff" => (refine ff_c rfl ?_; walk_at "ff")
  k_with "my fg" => (intro yqz hyqz; (repeat' (first | (refine ifn_l (hyqz _ ?m9) ?_; (case m9 => walk_at "fm")) | (refine ifn_r (hyqz _ ?m9) ?_; (case m9 => walk_at "fm")) | fail)); rfl)
  k_with "my fm" => first | with_reducible exact List.mem_cons_self .. | (refine List.mem_cons_of_mem _ ?_; walk_at "fm")
  k_with "my frs" => first | assumption | ((repeat' (refine Fresh.both ?_ ?_)); all_goals (first | assumption | exact Fresh.nil | exact Fresh.anti (by assumption) (by walk_at "subs")))
  k_with "my offs" => first | assumption | ((repeat' (first | refine off_app ?_ ?_ | refine off_cons ?_ ?_)); all_goals (first | assumption | exact off_fresh (by assumption) (by walk_at "memD") | exact off_anti (by assumption) (by walk_at "subs") | exact off_head (by assumption) (by walk_at "memD") | exact Ne.symm (by assumption)))
  k_with "my enterC" => (refine' code_defC ?k1 ?k2 ?k3 ?k4 ?k5 ?kA ?kF ?kK ?k6 ?k7 ?k8 ?k9 ?kB ?kD ?_ ?c2 ?c3 ?c4; (case kA => exact rfl); (case kF => exact rfl); (case kK => assumption); (case k1 => k_asm); (case k2 => k_asm); (case k3 => k_asm); (case k4 => k_asm); (case k5 => k_asm); (case k6 => k_is); (case k7 => k_is); (case k8 => ktr_room); (case k9 => exact BindsTo.of_eq rfl); (case kB => exact rfl); (case kD => decide +kernel); (case c2 => exact rfl); (case c3 => exact rfl); (case c4 => exact rfl); k_whole; intro gpqz Lpqz hpqz tkpqz cellspqz FGpqz Fpqz Npqz Ypqz Bpqz Xpqz Tpqz l1qz; k_cells Ypqz; (try simp only [List.cons_append, List.nil_append] at Npqz); (try dsimp only); (try k_fold))
  k_with "my call ref" => (k_here; (with_reducible show wpAny _ _ (call (Value.ref 120) [_, _, _]) _ _ _); k_dflt (refine' ctr_use (mixed_ctr _ _ _ _ _ _) ?k1 ?k2 ?k3 ?k4 ?k5 ?kK ?kp ?kd ?ku ?_); walk_at "use"; (case kp => walk_at "pre120"); k_whole; intro r9qz tl9qz h9qz tk9qz F9qz N9qz fr9qz ho9qz; (simp only [List.cons_append, List.nil_append] at N9qz); obtain ⟨a9qz, e9qz⟩ := RatIn.isRef ho9qz; subst e9qz; (try k_fold))
  k_with "my call ref" => (k_here; (with_reducible show wpAny _ _ (call (Value.ref 113) [_]) _ _ _); k_dflt (refine' ctr_use (let_ctr _ _) ?k1 ?k2 ?k3 ?k4 ?k5 ?kK ?kp ?kd ?ku ?_); walk_at "use"; (case kp => exact ⟨by walk_at "rats", by assumption⟩); k_whole; intro r9qz tl9qz h9qz tk9qz F9qz N9qz fr9qz ho9qz; (simp only [List.cons_append, List.nil_append] at N9qz); subst ho9qz; (try k_fold))
  k_with "my lists" => first | with_reducible assumption | exact ListIn.mono (by with_reducible assumption) (by walk_at "subs")
  k_with "my pre120" => exact ⟨by walk_at "lists", by walk_at "lists", by omega, by omega, by omega, by omega, by assumption, by assumption⟩
  k_with "my call ref" => (k_here; (with_reducible show wpAny _ _ (call (Value.ref 71) [_, _]) _ _ _); k_dflt (refine' ctr_use (rsub_ctr _ _ _ _) ?k1 ?k2 ?k3 ?k4 ?k5 ?kK ?kp ?kd ?ku ?_); walk_at "use"; (case kp => exact ⟨by walk_at "rats", by walk_at "rats", by walk_at "bds", by walk_at "bds"⟩); k_whole; intro r9qz tl9qz h9qz tk9qz F9qz N9qz fr9qz ho9qz; (simp only [List.cons_append, List.nil_append] at N9qz); obtain ⟨a9qz, e9qz⟩ := RatIn.isRef ho9qz; subst e9qz; (try k_fold))
  k_with "my call ref" => (k_here; (with_reducible show wpAny _ _ (call (Value.ref 85) [_, _]) _ _ _); k_dflt (refine' ctr_use (rdiv_ctr _ _ _ _) ?k1 ?k2 ?k3 ?k4 ?k5 ?kK ?kp ?kd ?ku ?_); walk_at "use"; (case kp => exact ⟨by walk_at "rats", by walk_at "rats", by walk_at "bds", by walk_at "bds", by assumption⟩); k_whole; intro r9qz tl9qz h9qz tk9qz F9qz N9qz fr9qz ho9qz; (simp only [List.cons_append, List.nil_append] at N9qz); obtain ⟨a9qz, e9qz⟩ := RatIn.isRef ho9qz; subst e9qz; (try k_fold))
  k_with "my compareOp Eq ref ref" => (k_here; (with_reducible show wpAny _ _ (compareOp CmpOp.Eq (Value.ref _) (Value.ref _)) _ _ _); k_dflt (refine' rat_eq ?k1 ?k2 ?k3 ?k4 ?k5 ?k6 ?k7 ?k8 ?_; (case k4 => with_reducible assumption); (case k6 => first | with_reducible assumption | exact r0_in (news := [])); (case k1 => k_asm); (case k2 => k_asm); (case k3 => k_asm); (case k5 => walk_at "subs"); (case k7 => first | exact List.forall_mem_nil _ | walk_at "subs"); (case k8 => exact units_room9 (by assumption) (by decide)); k_whole))
  k_with "my call builtin:list.append" => (k_here; (with_reducible show wpAny _ _ (call (Value.builtin _) [Value.ref _, _]) _ _ _); k_dflt (refine' append_K ?k1 ?k2 ?k3 ?_ ?z; (case k1 => k_asm); (case k2 => k_asm); (case k3 => first | exact Upd.head (by walk_at "offs") | exact Upd.tail (by first | assumption | exact Ne.symm (by assumption)) (Upd.head (by walk_at "offs"))); (case z => assumption); k_whole); intro hpqz Fpqz Npqz; (simp only [List.push_toArray] at Npqz); (try k_sweep))
  trivial
section
variable {w : World} {loose : List Str} {mean : ExcName → Option Value} {mg mb : Str → Option Value}
set_option maxHeartbeats 8000000 in
theorem cut_ctr (la : Addr) (n : Nat) (t : Tok) : Ctr w loose mean mg mb 2 106 [.ref la, .int n t]
    (fun news => (la, listOf #[] 0) ∈ news ∧ n ≤ 100)
    (fun tl r => ∃ l c, r = .ref l ∧ (l, listOf (List.replicate n (.ref 49)).toArray c) ∈ tl) := by
  w_top off
  unfold Ctr
  intro dp un gd cn cs fa ccd cl outer A₀ base h₀ L m news s Q E B F X N T hk hpre hdp hu hret
  obtain ⟨ha, hn⟩ := hpre
  have hle : ListIn (hd.heap_39 w.params) news la [] := ⟨[], 0, ha, rfl, fun i v e => by simp at e⟩
  have hzl : (([] : List Rat).length : Int) = 0 := rfl
  refine wpAny_call ?_
  k_dflt ktr_enter
  rename Fr _ _ _ _ => F1
  replace F1 := fr_entry F1 [(Str.ofString "order", .int n t), (Str.ofString "a", .ref la)] rfl
  simp only [kstB] at F1
  clear F
  k_steps
  rename News _ _ _ _ => N2
  rename IntsAre _ _ => hI
  rw [List.take_nil] at hI
  cases hI
  rw [rep_key (n := n) _ _ rfl (by simp)] at N2
  refine add_arrays (by assumption) N2 (News.isList N2 (by k_mem)) (News.isList N2 (List.mem_cons_self ..)) ?_ (by rw [sizeLine_eq]; simp; omega)
  intro h3 F3 N3
  k_steps
  rename News _ _ _ _ => N4
  refine hret _ [(_, listOf (List.replicate n (.ref 49)).toArray 0)] _ _ (by assumption) (fun p hp => ?_) (fun q hq p hp => ?_) ⟨_, 0, rfl, List.mem_cons_self ..⟩
  · rcases List.mem_append.mp hp with hp | hp
    · exact N4 p (by walk_at "sub")
    · rw [List.mem_singleton.mp hp]
      simpa using N4 _ (List.mem_cons_self ..)
  · rw [List.mem_singleton.mp hp]
    exact Nat.ne_of_lt (Heap.lt_size (N2 q (by walk_at "sub")).1)
end
theorem words22 : True := by
  k_with_none
  trivial
-- A11
theorem ListIn.ofHead {K : Frag} {news : List (Addr × Obj)} {vs : List Value} {xs : List Rat} (h : RatsIn K news vs xs) {D : Addr} {n : Nat} : ListIn K ((D, listOf vs.toArray n) :: news) D xs :=
  ⟨vs, n, List.mem_cons_self .., h.mono fun _ hp => List.mem_cons_of_mem _ hp⟩
def dropAt (D : Addr) (X : List (Addr × Obj)) : List (Addr × Obj) := X.filter fun p => decide (p.1 ≠ D)
theorem mem_dropAt {D : Addr} {X : List (Addr × Obj)} {p : Addr × Obj} : p ∈ dropAt D X ↔ p ∈ X ∧ p.1 ≠ D := by simp [dropAt]
theorem RatIn.offD {K : Frag} {X A : List (Addr × Obj)} {h₀ h : Heap} {L D : Addr} {v : Value} {x : Rat} {its : Array Value} {n : Nat} (hx : RatIn K X v x) (N : News h₀ L h A) (hs : ∀ p ∈ X, p ∈ A) (hm : (D, listOf its n) ∈ A) : RatIn K (dropAt D X) v x := by
  obtain ⟨a, t, u, c, e, hx⟩ := hx
  refine ⟨a, t, u, c, e, hx.imp id fun hp => mem_dropAt.mpr ⟨hp, fun e' => ?_⟩⟩
  have h1 := (N _ (hs _ hp)).1
  have h2 := (N _ hm).1
  dsimp only at e' h1 h2
  rw [e', h2] at h1
  have := congrArg Obj.cls (Option.some.inj h1)
  simp at this
theorem RatsIn.offD {K : Frag} {X A : List (Addr × Obj)} {h₀ h : Heap} {L D : Addr} {vs : List Value} {xs : List Rat} {its : Array Value} {n : Nat} (hx : RatsIn K X vs xs) (N : News h₀ L h A) (hs : ∀ p ∈ X, p ∈ A) (hm : (D, listOf its n) ∈ A) : RatsIn K (dropAt D X) vs xs :=
  ⟨hx.1, fun i v e => (hx.2 i v e).offD N hs hm⟩
theorem RatsIn.set {K : Frag} {X : List (Addr × Obj)} {vs : List Value} {xs : List Rat} {v : Value} {x : Rat} (hx : RatsIn K X vs xs) (hv : RatIn K X v x) (i : Nat) : RatsIn K X (vs.set i v) (xs.set i x) := by
  refine ⟨by rw [List.length_set, List.length_set, hx.1], fun j u e => ?_⟩
  rw [List.getElem?_set] at e
  by_cases hij : i = j
  · subst hij
    rw [if_pos rfl] at e
    split at e
    · rename_i hi
      cases e
      have : (xs.set i x).getD i 0 = x := by simp [List.getD, List.getElem?_set, ← hx.1, hi]
      rw [this]; exact hv
    · cases e
  · rw [if_neg hij] at e
    have : (xs.set i x).getD j 0 = xs.getD j 0 := by simp [List.getD, List.getElem?_set, hij]
    rw [this]
    exact hx.2 j u e
theorem rats_zero {w : World} {X : List (Addr × Obj)} (m : Nat) : RatsIn (hd.heap_39 w.params) X (List.replicate m (.ref 49)) (List.replicate m 0) := by
  refine ⟨by simp, fun i v e => ?_⟩
  have hi : i < m := by
    by_cases hi : i < m
    · exact hi
    · rw [List.getElem?_eq_none (by simp; omega)] at e; cases e
  rw [List.getElem?_replicate, if_pos hi] at e
  cases e
  have : (List.replicate m (0 : Rat)).getD i 0 = 0 := by simp [List.getD, List.getElem?_replicate, hi]
  rw [this]
  exact r0_in
theorem found_set {prog : Program} {w : World} {A : Around} {E : Value → Shared → Prop} {s : Shared} {K : Frag} {a D L : Addr} {h₀ : Heap} {m : Str → Option Value} {X led tlA tlB : List (Addr × Obj)} {f : List Rat} {x : Rat} {t : Tok} {Q : Unit → Shared → Prop}
    (F : Fr h₀ L s.heap m) (N : News h₀ L s.heap led) (hl : ListIn K tlA D f) (hx : RatIn K tlB (.ref a) x) (hX : ∀ p ∈ X, p ∈ led) (hA : ∀ p ∈ tlA, p ∈ led) (hB : ∀ p ∈ tlB, p ∈ led) (fA : Fresh X tlA) (fB : Fresh X tlB) (h0 : 0 < f.length)
    (h : ∀ h' T, Fr h₀ L h' m → News h₀ L h' (X ++ T) → Fresh X T → ListIn K T D (f.set 0 x) → Q () { s with heap := h' }) :
    wpAny (model prog w) A (setItem (.ref D) (.int 0 t) (.ref a)) Q E s := by
  obtain ⟨vs, c, hm, hr⟩ := hl
  have N5 : News h₀ L s.heap ((D, listOf vs.toArray c) :: dropAt D led) := fun p hp => by
    rcases List.mem_cons.mp hp with rfl | hp
    · exact N _ (hA _ hm)
    · exact N _ (mem_dropAt.mp hp).1
  refine list_set F N5 (Upd.head fun p hp => (mem_dropAt.mp hp).2) (by decide) (by rw [hr.1]; omega) (by decide) fun h' F' N' => ?_
  refine h h' ((D, listOf (vs.set (Int.toNat 0) (.ref a)).toArray c) :: (dropAt D tlA ++ dropAt D tlB)) F' (fun p hp => ?_) (fun q hq p hp => ?_) ?_
  · rcases List.mem_append.mp hp with hp | hp
    · exact N' p (List.mem_cons_of_mem _ (mem_dropAt.mpr ⟨hX p hp, fA p hp _ hm⟩))
    · rcases List.mem_cons.mp hp with rfl | hp
      · exact N' _ (List.mem_cons_self ..)
      · rcases List.mem_append.mp hp with hp | hp
        · exact N' p (List.mem_cons_of_mem _ (mem_dropAt.mpr ⟨hA p (mem_dropAt.mp hp).1, (mem_dropAt.mp hp).2⟩))
        · exact N' p (List.mem_cons_of_mem _ (mem_dropAt.mpr ⟨hB p (mem_dropAt.mp hp).1, (mem_dropAt.mp hp).2⟩))
  · rcases List.mem_cons.mp hp with rfl | hp
    · have := fA q hq _ hm
      exact this
    · rcases List.mem_append.mp hp with hp | hp
      · exact fA q hq p (mem_dropAt.mp hp).1
      · exact fB q hq p (mem_dropAt.mp hp).1
  · refine ⟨_, c, List.mem_cons_self .., ?_⟩
    refine RatsIn.set ((hr.offD N hA (hA _ hm)).mono fun p hp => List.mem_cons_of_mem _ (List.mem_append_left _ hp)) ((hx.offD N hB (hA _ hm)).mono fun p hp => List.mem_cons_of_mem _ (List.mem_append_right _ hp)) _
def compTo (xs ys : List Rat) (m : Nat) : Nat → List Rat
  | 0 => List.replicate m 0
  | i + 1 => (smulS (compTo xs ys m i) (pickR ys none (some m))).set 0 ((smulS (compTo xs ys m i) (pickR ys none (some m))).getD 0 0 + xs.getD (m - 1 - i) 0)
theorem pickR_length (ys : List Rat) (m : Nat) (h : m = ys.length) : (pickR ys none (some m)).length = m := by
  simp only [pickR, kms_lo, kms_hi]
  rw [if_neg (by omega)]
  simp
  omega
theorem compTo_length (xs ys : List Rat) (m : Nat) (h : m = ys.length) : ∀ i, (compTo xs ys m i).length = m
  | 0 => by simp [compTo]
  | i + 1 => by rw [compTo, List.length_set, smulS_length, compTo_length xs ys m h i, pickR_length ys m h, Nat.min_self]
theorem words23 : True := by
  k_with_none
  k_with "my memD" => first | exact List.mem_cons_self .. | (refine List.mem_cons_of_mem _ ?_; walk_at "memD")
  k_with "my sub" => first | assumption | (refine List.Mem.tail _ ?_; walk_at "sub") | (refine List.mem_append.mpr (Or.inl ?_); walk_at "sub") | (refine List.mem_append.mpr (Or.inr ?_); walk_at "sub")
  k_with "my subs" => (intro pqz hpqz; first | walk_at "sub" | (simp only [List.mem_append, List.mem_cons] at hpqz ⊢; (repeat' (refine Or.elim hpqz (fun hpqz => ?_) (fun hpqz => ?_))) <;> simp only [hpqz, eq_self, true_or, or_true]))
  k_with "my use" => ( (case k1 => k_asm); (case k2 => k_asm); (case k3 => k_asm); (case k4 => k_asm); (case k5 => k_asm); (case kK => first | exact rfl | assumption); (case kd => ktr_room); (case ku => ktr_units))
  k_with "my pyIter ref" => (k_here; refine stop_intro ?_)
  k_with "my subscriptTail" => (k_here; (with_reducible show wpAny _ _ (subscriptTail _ _ (Value.ref _) (Value.int _ _)) _ _ _); k_dflt (refine' list_item ?k3 ?k4 ?k5 ?k7 ?k8 ?k9 ?_ ?k6; (case k4 => with_reducible assumption); (case k3 => k_asm); (case k5 => walk_at "subs"); (case k6 => with_unfolding_all rfl); (case k7 => omega); (case k8 => omega); (case k9 => omega); k_whole); intro b9qz hb9qz)
  k_with "my call builtin:len" => (k_here; (with_reducible show wpAny _ _ (call (Value.builtin "len") [Value.ref _]) _ _ _); k_dflt (refine' list_len ?k3 ?k4 ?k5 ?k7 ?_; (case k4 => with_reducible assumption); (case k3 => k_asm); (case k5 => walk_at "subs"); (case k7 => omega); k_whole); intro _ _)
  k_with "my rats" => first | with_reducible assumption | exact RatIn.mono (by with_reducible assumption) (by walk_at "subs") | exact r0_in | exact r1_in
  k_with "my compareOp NotEq ref ref" => (k_here; (with_reducible show wpAny _ _ (compareOp CmpOp.NotEq (Value.ref _) (Value.ref _)) _ _ _); k_dflt (refine' rat_ne ?k1 ?k2 ?k3 ?k4 ?k5 ?k6 ?k7 ?k8 ?_; (case k4 => with_reducible assumption); (case k6 => first | with_reducible assumption | exact r0_in (news := [])); (case k1 => k_asm); (case k2 => k_asm); (case k3 => k_asm); (case k5 => walk_at "subs"); (case k7 => first | exact List.forall_mem_nil _ | walk_at "subs"); (case k8 => exact units_room9 (by assumption) (by decide)); k_whole))
  k_with "my bd" => first | with_reducible assumption | exact Bd.zero | exact (by with_reducible assumption : Bds _ _) _ | exact Bd.mul (by walk_at "bd") (by walk_at "bd") | exact Bd.add (by walk_at "bd") (by walk_at "bd") | exact Bd.sub (by walk_at "bd") (by walk_at "bd")
  k_with "my bds" => exact Bd.mono (by walk_at "bd") (by omega)
  k_with "my call ref" => (k_here; (with_reducible show wpAny _ _ (call (Value.ref 64) [_, _]) _ _ _); k_dflt (refine' ctr_use (radd_ctr _ _ _ _) ?k1 ?k2 ?k3 ?k4 ?k5 ?kK ?kp ?kd ?ku ?_); walk_at "use"; (case kp => exact ⟨by walk_at "rats", by walk_at "rats", by walk_at "bds", by walk_at "bds"⟩); k_whole; intro r9qz tl9qz h9qz tk9qz F9qz N9qz fr9qz ho9qz; (simp only [List.cons_append, List.nil_append] at N9qz ho9qz); obtain ⟨a9qz, e9qz⟩ := RatIn.isRef ho9qz; subst e9qz; (try k_fold))
  k_with "my call ref" => (k_here; (with_reducible show wpAny _ _ (call (Value.ref 78) [_, _]) _ _ _); k_dflt (refine' ctr_use (rmul_ctr _ _ _ _) ?k1 ?k2 ?k3 ?k4 ?k5 ?kK ?kp ?kd ?ku ?_); walk_at "use"; (case kp => exact ⟨by walk_at "rats", by walk_at "rats", by walk_at "bds", by walk_at "bds"⟩); k_whole; intro r9qz tl9qz h9qz tk9qz F9qz N9qz fr9qz ho9qz; (simp only [List.cons_append, List.nil_append] at N9qz ho9qz); obtain ⟨a9qz, e9qz⟩ := RatIn.isRef ho9qz; subst e9qz; (try k_fold))
  k_with "my ff" => exact ff_n
  k_with "my ff" => (refine ff_c rfl ?_; walk_at "ff")
  k_with "my fg" => (intro yqz hyqz; (repeat' (first | (refine ifn_l (hyqz _ ?m9) ?_; (case m9 => walk_at "fm")) | (refine ifn_r (hyqz _ ?m9) ?_; (case m9 => walk_at "fm")) | fail)); rfl)
  k_with "my fm" => first | with_reducible exact List.mem_cons_self .. | (refine List.mem_cons_of_mem _ ?_; walk_at "fm")
  k_with "my frs" => first | assumption | ((repeat' (refine Fresh.both ?_ ?_)); all_goals (first | assumption | exact Fresh.nil | exact Fresh.anti (by assumption) (by walk_at "subs")))
  k_with "my offs" => first | assumption | ((repeat' (first | refine off_app ?_ ?_ | refine off_cons ?_ ?_)); all_goals (first | assumption | exact off_fresh (by assumption) (by walk_at "memD") | exact off_anti (by assumption) (by walk_at "subs") | exact off_head (by assumption) (by walk_at "memD") | exact Ne.symm (by assumption)))
  k_with "my enterC" => (refine' code_defC ?k1 ?k2 ?k3 ?k4 ?k5 ?kA ?kF ?kK ?k6 ?k7 ?k8 ?k9 ?kB ?kD ?_ ?c2 ?c3 ?c4; (case kA => exact rfl); (case kF => exact rfl); (case kK => assumption); (case k1 => k_asm); (case k2 => k_asm); (case k3 => k_asm); (case k4 => k_asm); (case k5 => k_asm); (case k6 => k_is); (case k7 => k_is); (case k8 => ktr_room); (case k9 => exact BindsTo.of_eq rfl); (case kB => exact rfl); (case kD => decide +kernel); (case c2 => exact rfl); (case c3 => exact rfl); (case c4 => exact rfl); k_whole; intro gpqz Lpqz hpqz tkpqz cellspqz FGpqz Fpqz Npqz Ypqz Bpqz Xpqz Tpqz l1qz; k_cells Ypqz; (try simp only [List.cons_append, List.nil_append] at Npqz); (try dsimp only); (try k_fold))
  k_with "my call ref" => (k_here; (with_reducible show wpAny _ _ (call (Value.ref 120) [_, _, _]) _ _ _); k_dflt (refine' ctr_use (mixed_ctr _ _ _ _ _ _) ?k1 ?k2 ?k3 ?k4 ?k5 ?kK ?kp ?kd ?ku ?_); walk_at "use"; (case kp => walk_at "pre120"); k_whole; intro r9qz tl9qz h9qz tk9qz F9qz N9qz fr9qz ho9qz; (simp only [List.cons_append, List.nil_append] at N9qz); obtain ⟨a9qz, e9qz⟩ := RatIn.isRef ho9qz; subst e9qz; (try k_fold))
  k_with "my call ref" => (k_here; (with_reducible show wpAny _ _ (call (Value.ref 113) [_]) _ _ _); k_dflt (refine' ctr_use (let_ctr _ _) ?k1 ?k2 ?k3 ?k4 ?k5 ?kK ?kp ?kd ?ku ?_); walk_at "use"; (case kp => exact ⟨by walk_at "rats", by assumption⟩); k_whole; intro r9qz tl9qz h9qz tk9qz F9qz N9qz fr9qz ho9qz; (simp only [List.cons_append, List.nil_append] at N9qz); subst ho9qz; (try k_fold))
  k_with "my lists" => first | with_reducible assumption | exact ListIn.mono (by with_reducible assumption) (by walk_at "subs")
  k_with "my pre120" => exact ⟨by walk_at "lists", by walk_at "lists", by omega, by omega, by omega, by omega, by assumption, by assumption⟩
  k_with "my call ref" => (k_here; (with_reducible show wpAny _ _ (call (Value.ref 71) [_, _]) _ _ _); k_dflt (refine' ctr_use (rsub_ctr _ _ _ _) ?k1 ?k2 ?k3 ?k4 ?k5 ?kK ?kp ?kd ?ku ?_); walk_at "use"; (case kp => exact ⟨by walk_at "rats", by walk_at "rats", by walk_at "bds", by walk_at "bds"⟩); k_whole; intro r9qz tl9qz h9qz tk9qz F9qz N9qz fr9qz ho9qz; (simp only [List.cons_append, List.nil_append] at N9qz); obtain ⟨a9qz, e9qz⟩ := RatIn.isRef ho9qz; subst e9qz; (try k_fold))
  k_with "my call ref" => (k_here; (with_reducible show wpAny _ _ (call (Value.ref 85) [_, _]) _ _ _); k_dflt (refine' ctr_use (rdiv_ctr _ _ _ _) ?k1 ?k2 ?k3 ?k4 ?k5 ?kK ?kp ?kd ?ku ?_); walk_at "use"; (case kp => exact ⟨by walk_at "rats", by walk_at "rats", by walk_at "bds", by walk_at "bds", by assumption⟩); k_whole; intro r9qz tl9qz h9qz tk9qz F9qz N9qz fr9qz ho9qz; (simp only [List.cons_append, List.nil_append] at N9qz); obtain ⟨a9qz, e9qz⟩ := RatIn.isRef ho9qz; subst e9qz; (try k_fold))
  k_with "my compareOp Eq ref ref" => (k_here; (with_reducible show wpAny _ _ (compareOp CmpOp.Eq (Value.ref _) (Value.ref _)) _ _ _); k_dflt (refine' rat_eq ?k1 ?k2 ?k3 ?k4 ?k5 ?k6 ?k7 ?k8 ?_; (case k4 => with_reducible assumption); (case k6 => first | with_reducible assumption | exact r0_in (news := [])); (case k1 => k_asm); (case k2 => k_asm); (case k3 => k_asm); (case k5 => walk_at "subs"); (case k7 => first | exact List.forall_mem_nil _ | walk_at "subs"); (case k8 => exact units_room9 (by assumption) (by decide)); k_whole))
  k_with "my call builtin:list.append" => (k_here; (with_reducible show wpAny _ _ (call (Value.builtin _) [Value.ref _, _]) _ _ _); k_dflt (refine' append_K ?k1 ?k2 ?k3 ?_ ?z; (case k1 => k_asm); (case k2 => k_asm); (case k3 => first | exact Upd.head (by walk_at "offs") | exact Upd.tail (by first | assumption | exact Ne.symm (by assumption)) (Upd.head (by walk_at "offs"))); (case z => assumption); k_whole); intro hpqz Fpqz Npqz; (simp only [List.push_toArray] at Npqz); (try k_sweep))
  k_with "my call ref" => (k_here; (with_reducible show wpAny _ _ (call (Value.ref 125) [_, _]) _ _ _); k_dflt (refine' ctr_use (smul_ctr _ _ _ _) ?k1 ?k2 ?k3 ?k4 ?k5 ?kK ?kp ?kd ?ku ?_); walk_at "use"; (case kp => exact ⟨by walk_at "lists", by walk_at "lists", by first | assumption | omega, by first | assumption | omega, by assumption, by assumption, by assumption⟩); k_whole; intro r9qz tl9qz h9qz tk9qz F9qz N9qz fr9qz ho9qz; (simp only [List.cons_append, List.nil_append] at N9qz); obtain ⟨l9qz, e9qz, ho9qz⟩ := ho9qz; subst e9qz; (try k_fold))
  k_with "my call ref" => (k_here; (with_reducible show wpAny _ _ (call (Value.ref 139) [_, Value.ref 49]) _ _ _); k_dflt (refine' ctr_use (need_begin_ctr _ _) ?k1 ?k2 ?k3 ?k4 ?k5 ?kK ?kp ?kd ?ku ?_); walk_at "use"; (case kp => exact ⟨by walk_at "lists", by omega, by omega, by assumption⟩); k_whole; intro r9qz tl9qz h9qz tk9qz F9qz N9qz fr9qz ho9qz; (try simp only [List.cons_append, List.nil_append] at N9qz); subst ho9qz; (try k_fold))
  k_with "my call ref" => (k_here; (with_reducible show wpAny _ _ (call (Value.ref 106) [_, _]) _ _ _); refine stop_intro ?_)
  k_with "my subscriptTail Name Slice ref ref" => (k_here; (with_reducible show wpAny _ _ (subscriptTail _ (PySem.Expr.Slice _ _ none _) (Value.ref _) (Value.ref _)) _ _ _); k_dflt (refine' list_slice ?sF ?sN ?sx ?ss ?sp ?sq ?sz ?_ ?su ?stt; (case sx => with_reducible assumption); (case sF => k_asm); (case sN => k_asm); (case ss => walk_at "subs"); (case sp => kmk_part); (case sq => kmk_part); (case su => with_unfolding_all rfl); (case stt => kmk_pure); (case sz => omega)); intro Dpqz hpqz wspqz Fpqz Npqz l1qz hwspqz; (have hws9qz := ListIn.ofHead (D := Dpqz) (n := 0) hwspqz); (try k_sweep))
  k_with "my setItem ref int" => (k_here; (with_reducible show wpAny _ _ (setItem (Value.ref _) (Value.int _ _) (Value.ref _)) _ _ _); refine stop_intro ?_)
  trivial
section
variable {w : World} {loose : List Str} {mean : ExcName → Option Value} {mg mb : Str → Option Value}
set_option maxHeartbeats 8000000 in
theorem scompose_ctr (la lb : Addr) (xs ys : List Rat) (m : Nat) : Ctr w loose mean mg mb 114 146 [.ref la, .ref lb]
    (fun news => ListIn (hd.heap_39 w.params) news la xs ∧ ListIn (hd.heap_39 w.params) news lb ys ∧ 0 < m ∧ xs.length = m ∧ ys.length = m ∧ m ≤ 100 ∧ ys.getD 0 0 = 0 ∧ Bds 64 xs ∧ Bds 64 (pickR ys none (some m)) ∧ (∀ i, i < m → Bds 64 (compTo xs ys m i)) ∧
      ∀ i, i < m → ∀ k, k < min (compTo xs ys m i).length (pickR ys none (some m)).length → Small (mixedS (compTo xs ys m i) (pickR ys none (some m)) k))
    (fun tl r => ∃ l, r = .ref l ∧ ListIn (hd.heap_39 w.params) tl l (compTo xs ys m m)) := by
  w_top off
  unfold Ctr
  intro dp un gd cn cs fa ccd cl outer A₀ base h₀ L m₀ news s Q E B F X N T hk hpre hdp hu hret
  obtain ⟨ha, hb, hm0, hxl, hyl, hm9, hy0, hx, hy, hcb, hsm⟩ := hpre
  have hmin : (if (ys.length : Int) < xs.length then (ys.length : Int) else xs.length) = (m : Int) := by split <;> omega
  refine wpAny_call ?_
  k_dflt ktr_enter
  rename Fr _ _ _ _ => F1
  replace F1 := fr_entry F1 [(Str.ofString "b", .ref lb), (Str.ofString "a", .ref la)] rfl
  simp only [kstB] at F1
  clear F
  k_steps
  unfold Stop
  rename Fr _ _ _ _ => F2
  rename News _ _ _ _ => N2
  rw [hmin] at F2 ⊢
  refine' ctr_use (cut_ctr _ _ _) ?k1 ?k2 ?k3 ?k4 ?k5 ?kK ?kp ?kd ?ku ?_
  walk_at "use"
  case kp => exact ⟨List.mem_cons_self .., hm9⟩
  intro r9 tl9 h9 tk9 F9 N9 fr9 ho9
  simp only [List.cons_append, List.nil_append] at N9
  obtain ⟨l9, c9, e9, ho9⟩ := ho9
  subst e9
  k_steps
  unfold Stop
  rename Fr _ _ _ _ => F3
  rename News _ _ _ _ => N3
  rename Fresh (_ :: _) tl9 => fr9
  have N4 := cb_drop (news := news ++ tl9) N3 (by walk_at "subs")
  refine for_range_down (n := m) (fun i m₁ n₁ => ∃ Df u tm tl, m₁ = (fun y => if y = Str.ofString "at" then u else if y = Str.ofString "found" then some (.ref Df) else if y = Str.ofString "order" then some (.int m tm) else if y = Str.ofString "b" then some (.ref lb) else if y = Str.ofString "a" then some (.ref la) else none) ∧ n₁ = news ++ tl ∧ Fresh news tl ∧ ListIn (hd.heap_39 w.params) tl Df (compTo xs ys m i)) rfl (by assumption) (small_down (by omega) (by omega) (by omega) (by omega)) (by rw [rangeSize_downNat]; omega) F3 N4 ?_ ?_ ?_
  · exact ⟨_, none, _, tl9, map_ext [Str.ofString "at", Str.ofString "found", Str.ofString "order", Str.ofString "b", Str.ofString "a"] (by walk_at "ff") (by walk_at "fg"), rfl, Fresh.anti fr9 (by walk_at "subs"), ⟨_, _, ho9, rats_zero m⟩⟩
  · rintro i ti m₁ n₁ h tk I it hi ⟨Df, u, tm, tl, rfl, rfl, hfr, hfd⟩ hit hoff F1 N1
    intro Rz hend
    clear F3 N3 N4
    have hlenc := compTo_length xs ys m hyl.symm i
    have hlenp := pickR_length ys m hyl.symm
    have hlens : (smulS (compTo xs ys m i) (pickR ys none (some m))).length = m := by rw [smulS_length, hlenc, hlenp, Nat.min_self]
    have hsmi := hsm i hi
    have hcbi := hcb i hi
    have hsb : Bds 64 (smulS (compTo xs ys m i) (pickR ys none (some m))) := getD_bd (fun k hk => by rw [smulS_length] at hk; rw [smulS_getD hk]; exact (hsmi k hk).bd) (by decide)
    have ei : ((m : Int) - 1 - i).toNat = m - 1 - i := by omega
    k_steps
    unfold Stop
    rename RatIn _ _ _ (_ + _) => ho
    rename ListIn _ _ _ (smulS _ _) => hl
    rename News _ _ _ _ => N5
    rename Fr _ _ _ _ => F5
    rw [ei] at ho
    refine found_set (X := (I, it) :: news) F5 N5 hl ho (by walk_at "subs") (by walk_at "subs") (by walk_at "subs") (by walk_at "frs") (by walk_at "frs") (by omega) fun h' T F6 N6 f6 l6 => ?_
    k_steps
    exact hend _ _ _ _ F6 N6 (off_app (off_anti hoff (by walk_at "subs")) (off_fresh f6 (List.mem_cons_self ..))) ⟨_, _, _, T, map_ext [Str.ofString "at", Str.ofString "found", Str.ofString "order", Str.ofString "b", Str.ofString "a"] (by walk_at "ff") (by walk_at "fg"), rfl, Fresh.anti f6 (by walk_at "subs"), l6⟩
  · rintro m₁ n₁ h tk ⟨Df, u, tm, tl, rfl, rfl, hfr, hfd⟩ F1 N1
    clear F3 N3 N4
    k_steps
    exact hret _ _ _ _ (by assumption) (by assumption) hfr ⟨_, rfl, hfd⟩
end
theorem words24 : True := by
  k_with_none
  trivial
-- A12
theorem RatIn.int {K : Frag} {news : List (Addr × Obj)} {D : Addr} {p : Int} {t u : Tok} {n : Nat} (hm : (D, tup2 p 1 t u n) ∈ news) : RatIn K news (.ref D) (p : Rat) := RatIn.new hm rfl rfl
theorem pick2 {h₀ h : Heap} {L : Addr} {a b : Addr × Obj} {r news tlI : List (Addr × Obj)} (N : News h₀ L h (a :: b :: r)) (hs : ∀ p ∈ news ++ tlI, p ∈ a :: b :: r) : News h₀ L h (b :: (news ++ tlI)) := fun p hp => by
  rcases List.mem_cons.mp hp with rfl | hp
  · exact N _ (List.mem_cons_of_mem _ (List.mem_cons_self ..))
  · exact N _ (hs p hp)
theorem news_tail {h₀ h : Heap} {L : Addr} {a : Addr × Obj} {r : List (Addr × Obj)} (N : News h₀ L h (a :: r)) : News h₀ L h r := fun p hp => N p (List.mem_cons_of_mem _ hp)
def powS (t : List Rat) : Nat → List Rat
  | 0 => t
  | j + 1 => smulS (powS t j) t
theorem powS_length (t : List Rat) : ∀ j, (powS t j).length = t.length
  | 0 => rfl
  | j + 1 => by rw [powS, smulS_length, powS_length t j, Nat.min_self]
def trn (xs : List Rat) : List Rat := invL (pickR xs (some 1) none) (pickR xs (some 1) none).length
theorem pickT_length (xs : List Rat) (h : 1 ≤ xs.length) : (pickR xs (some 1) none).length = xs.length - 1 := by
  simp only [pickR, kms_lo, kms_hi]
  rw [if_neg (by omega)]
  simp
  omega
def revF (xs : List Rat) : Nat → Rat
  | 0 => 0
  | j + 1 => (powS (trn xs) j).getD j 0 / ((1 + (j : Int) : Int) : Rat)
def revL (xs : List Rat) : List Rat := (List.range xs.length).map (revF xs)
theorem revL_length (xs : List Rat) : (revL xs).length = xs.length := by simp [revL]
theorem revL_getD {xs : List Rat} {k : Nat} (h : k < xs.length) : (revL xs).getD k 0 = revF xs k := by
  simp [revL, List.getD, List.getElem?_map, List.getElem?_range h]
theorem words25 : True := by
  k_with_none
  k_with "my memD" => first | exact List.mem_cons_self .. | (refine List.mem_cons_of_mem _ ?_; walk_at "memD")
  k_with "my sub" => first | assumption | (refine List.Mem.tail _ ?_; walk_at "sub") | (refine List.mem_append.mpr (Or.inl ?_); walk_at "sub") | (refine List.mem_append.mpr (Or.inr ?_); walk_at "sub")
  k_with "my subs" => (intro pqz hpqz; first | walk_at "sub" | (simp only [List.mem_append, List.mem_cons] at hpqz ⊢; (repeat' (refine Or.elim hpqz (fun hpqz => ?_) (fun hpqz => ?_))) <;> simp only [hpqz, eq_self, true_or, or_true]))
  k_with "my use" => ( (case k1 => k_asm); (case k2 => k_asm); (case k3 => k_asm); (case k4 => k_asm); (case k5 => k_asm); (case kK => first | exact rfl | assumption); (case kd => ktr_room); (case ku => ktr_units))
  k_with "my pyIter ref" => (k_here; refine stop_intro ?_)
  k_with "my subscriptTail" => (k_here; (with_reducible show wpAny _ _ (subscriptTail _ _ (Value.ref _) (Value.int _ _)) _ _ _); k_dflt (refine' list_item ?k3 ?k4 ?k5 ?k7 ?k8 ?k9 ?_ ?k6; (case k4 => with_reducible assumption); (case k3 => k_asm); (case k5 => walk_at "subs"); (case k6 => with_unfolding_all rfl); (case k7 => omega); (case k8 => omega); (case k9 => omega); k_whole); intro b9qz hb9qz)
  k_with "my call builtin:len" => (k_here; (with_reducible show wpAny _ _ (call (Value.builtin "len") [Value.ref _]) _ _ _); k_dflt (refine' list_len ?k3 ?k4 ?k5 ?k7 ?_; (case k4 => with_reducible assumption); (case k3 => k_asm); (case k5 => walk_at "subs"); (case k7 => omega); k_whole); intro _ _)
  k_with "my rats" => first | with_reducible assumption | exact RatIn.mono (by with_reducible assumption) (by walk_at "subs") | exact r0_in | exact r1_in
  k_with "my compareOp NotEq ref ref" => (k_here; (with_reducible show wpAny _ _ (compareOp CmpOp.NotEq (Value.ref _) (Value.ref _)) _ _ _); k_dflt (refine' rat_ne ?k1 ?k2 ?k3 ?k4 ?k5 ?k6 ?k7 ?k8 ?_; (case k4 => with_reducible assumption); (case k6 => first | with_reducible assumption | exact r0_in (news := [])); (case k1 => k_asm); (case k2 => k_asm); (case k3 => k_asm); (case k5 => walk_at "subs"); (case k7 => first | exact List.forall_mem_nil _ | walk_at "subs"); (case k8 => exact units_room9 (by assumption) (by decide)); k_whole))
  k_with "my bd" => first | with_reducible assumption | exact Bd.zero | exact (by with_reducible assumption : Bds _ _) _ | exact Bd.mul (by walk_at "bd") (by walk_at "bd") | exact Bd.add (by walk_at "bd") (by walk_at "bd") | exact Bd.sub (by walk_at "bd") (by walk_at "bd")
  k_with "my bds" => exact Bd.mono (by walk_at "bd") (by omega)
  k_with "my call ref" => (k_here; (with_reducible show wpAny _ _ (call (Value.ref 64) [_, _]) _ _ _); k_dflt (refine' ctr_use (radd_ctr _ _ _ _) ?k1 ?k2 ?k3 ?k4 ?k5 ?kK ?kp ?kd ?ku ?_); walk_at "use"; (case kp => exact ⟨by walk_at "rats", by walk_at "rats", by walk_at "bds", by walk_at "bds"⟩); k_whole; intro r9qz tl9qz h9qz tk9qz F9qz N9qz fr9qz ho9qz; (simp only [List.cons_append, List.nil_append] at N9qz ho9qz); obtain ⟨a9qz, e9qz⟩ := RatIn.isRef ho9qz; subst e9qz; (try k_fold))
  k_with "my call ref" => (k_here; (with_reducible show wpAny _ _ (call (Value.ref 78) [_, _]) _ _ _); k_dflt (refine' ctr_use (rmul_ctr _ _ _ _) ?k1 ?k2 ?k3 ?k4 ?k5 ?kK ?kp ?kd ?ku ?_); walk_at "use"; (case kp => exact ⟨by walk_at "rats", by walk_at "rats", by walk_at "bds", by walk_at "bds"⟩); k_whole; intro r9qz tl9qz h9qz tk9qz F9qz N9qz fr9qz ho9qz; (simp only [List.cons_append, List.nil_append] at N9qz ho9qz); obtain ⟨a9qz, e9qz⟩ := RatIn.isRef ho9qz; subst e9qz; (try k_fold))
  k_with "my ff" => exact ff_n
  k_with "my ff" => (refine ff_c rfl ?_; walk_at "ff")
  k_with "my fg" => (intro yqz hyqz; (repeat' (first | (refine ifn_l (hyqz _ ?m9) ?_; (case m9 => walk_at "fm")) | (refine ifn_r (hyqz _ ?m9) ?_; (case m9 => walk_at "fm")) | fail)); rfl)
  k_with "my fm" => first | with_reducible exact List.mem_cons_self .. | (refine List.mem_cons_of_mem _ ?_; walk_at "fm")
  k_with "my frs" => first | assumption | ((repeat' (refine Fresh.both ?_ ?_)); all_goals (first | assumption | exact Fresh.nil | exact Fresh.anti (by assumption) (by walk_at "subs")))
  k_with "my offs" => first | assumption | ((repeat' (first | refine off_app ?_ ?_ | refine off_cons ?_ ?_)); all_goals (first | assumption | exact off_fresh (by assumption) (by walk_at "memD") | exact off_anti (by assumption) (by walk_at "subs") | exact off_head (by assumption) (by walk_at "memD") | exact Ne.symm (by assumption)))
  k_with "my enterC" => (refine' code_defC ?k1 ?k2 ?k3 ?k4 ?k5 ?kA ?kF ?kK ?k6 ?k7 ?k8 ?k9 ?kB ?kD ?_ ?c2 ?c3 ?c4; (case kA => exact rfl); (case kF => exact rfl); (case kK => assumption); (case k1 => k_asm); (case k2 => k_asm); (case k3 => k_asm); (case k4 => k_asm); (case k5 => k_asm); (case k6 => k_is); (case k7 => k_is); (case k8 => ktr_room); (case k9 => exact BindsTo.of_eq rfl); (case kB => exact rfl); (case kD => decide +kernel); (case c2 => exact rfl); (case c3 => exact rfl); (case c4 => exact rfl); k_whole; intro gpqz Lpqz hpqz tkpqz cellspqz FGpqz Fpqz Npqz Ypqz Bpqz Xpqz Tpqz l1qz; k_cells Ypqz; (try simp only [List.cons_append, List.nil_append] at Npqz); (try dsimp only); (try k_fold))
  k_with "my call ref" => (k_here; (with_reducible show wpAny _ _ (call (Value.ref 120) [_, _, _]) _ _ _); k_dflt (refine' ctr_use (mixed_ctr _ _ _ _ _ _) ?k1 ?k2 ?k3 ?k4 ?k5 ?kK ?kp ?kd ?ku ?_); walk_at "use"; (case kp => walk_at "pre120"); k_whole; intro r9qz tl9qz h9qz tk9qz F9qz N9qz fr9qz ho9qz; (simp only [List.cons_append, List.nil_append] at N9qz); obtain ⟨a9qz, e9qz⟩ := RatIn.isRef ho9qz; subst e9qz; (try k_fold))
  k_with "my call ref" => (k_here; (with_reducible show wpAny _ _ (call (Value.ref 113) [_]) _ _ _); k_dflt (refine' ctr_use (let_ctr _ _) ?k1 ?k2 ?k3 ?k4 ?k5 ?kK ?kp ?kd ?ku ?_); walk_at "use"; (case kp => exact ⟨by walk_at "rats", by assumption⟩); k_whole; intro r9qz tl9qz h9qz tk9qz F9qz N9qz fr9qz ho9qz; (simp only [List.cons_append, List.nil_append] at N9qz); subst ho9qz; (try k_fold))
  k_with "my lists" => first | with_reducible assumption | exact ListIn.mono (by with_reducible assumption) (by walk_at "subs")
  k_with "my pre120" => exact ⟨by walk_at "lists", by walk_at "lists", by omega, by omega, by omega, by omega, by assumption, by assumption⟩
  k_with "my call ref" => (k_here; (with_reducible show wpAny _ _ (call (Value.ref 71) [_, _]) _ _ _); k_dflt (refine' ctr_use (rsub_ctr _ _ _ _) ?k1 ?k2 ?k3 ?k4 ?k5 ?kK ?kp ?kd ?ku ?_); walk_at "use"; (case kp => exact ⟨by walk_at "rats", by walk_at "rats", by walk_at "bds", by walk_at "bds"⟩); k_whole; intro r9qz tl9qz h9qz tk9qz F9qz N9qz fr9qz ho9qz; (simp only [List.cons_append, List.nil_append] at N9qz); obtain ⟨a9qz, e9qz⟩ := RatIn.isRef ho9qz; subst e9qz; (try k_fold))
  k_with "my call ref" => (k_here; (with_reducible show wpAny _ _ (call (Value.ref 85) [_, _]) _ _ _); k_dflt (refine' ctr_use (rdiv_ctr _ _ _ _) ?k1 ?k2 ?k3 ?k4 ?k5 ?kK ?kp ?kd ?ku ?_); walk_at "use"; (case kp => exact ⟨by walk_at "rats", by walk_at "rats", by walk_at "bds", by walk_at "bds", by assumption⟩); k_whole; intro r9qz tl9qz h9qz tk9qz F9qz N9qz fr9qz ho9qz; (simp only [List.cons_append, List.nil_append] at N9qz); obtain ⟨a9qz, e9qz⟩ := RatIn.isRef ho9qz; subst e9qz; (try k_fold))
  k_with "my compareOp Eq ref ref" => (k_here; (with_reducible show wpAny _ _ (compareOp CmpOp.Eq (Value.ref _) (Value.ref _)) _ _ _); k_dflt (refine' rat_eq ?k1 ?k2 ?k3 ?k4 ?k5 ?k6 ?k7 ?k8 ?_; (case k4 => with_reducible assumption); (case k6 => first | with_reducible assumption | exact r0_in (news := [])); (case k1 => k_asm); (case k2 => k_asm); (case k3 => k_asm); (case k5 => walk_at "subs"); (case k7 => first | exact List.forall_mem_nil _ | walk_at "subs"); (case k8 => exact units_room9 (by assumption) (by decide)); k_whole))
  k_with "my call builtin:list.append" => (k_here; (with_reducible show wpAny _ _ (call (Value.builtin _) [Value.ref _, _]) _ _ _); k_dflt (refine' append_K ?k1 ?k2 ?k3 ?_ ?z; (case k1 => k_asm); (case k2 => k_asm); (case k3 => first | exact Upd.head (by walk_at "offs") | exact Upd.tail (by first | assumption | exact Ne.symm (by assumption)) (Upd.head (by walk_at "offs"))); (case z => assumption); k_whole); intro hpqz Fpqz Npqz; (simp only [List.push_toArray] at Npqz); (try k_sweep))
  k_with "my call ref" => (k_here; (with_reducible show wpAny _ _ (call (Value.ref 125) [_, _]) _ _ _); k_dflt (refine' ctr_use (smul_ctr _ _ _ _) ?k1 ?k2 ?k3 ?k4 ?k5 ?kK ?kp ?kd ?ku ?_); walk_at "use"; (case kp => exact ⟨by walk_at "lists", by walk_at "lists", by first | assumption | omega, by first | assumption | omega, by assumption, by assumption, by assumption⟩); k_whole; intro r9qz tl9qz h9qz tk9qz F9qz N9qz fr9qz ho9qz; (simp only [List.cons_append, List.nil_append] at N9qz); obtain ⟨l9qz, e9qz, ho9qz⟩ := ho9qz; subst e9qz; (try k_fold))
  k_with "my call ref" => (k_here; (with_reducible show wpAny _ _ (call (Value.ref 139) [_, Value.ref 49]) _ _ _); k_dflt (refine' ctr_use (need_begin_ctr _ _) ?k1 ?k2 ?k3 ?k4 ?k5 ?kK ?kp ?kd ?ku ?_); walk_at "use"; (case kp => exact ⟨by walk_at "lists", by omega, by omega, by assumption⟩); k_whole; intro r9qz tl9qz h9qz tk9qz F9qz N9qz fr9qz ho9qz; (try simp only [List.cons_append, List.nil_append] at N9qz); subst ho9qz; (try k_fold))
  k_with "my call ref" => (k_here; (with_reducible show wpAny _ _ (call (Value.ref 106) [_, _]) _ _ _); refine stop_intro ?_)
  k_with "my subscriptTail Name Slice ref ref" => (k_here; (with_reducible show wpAny _ _ (subscriptTail _ (PySem.Expr.Slice _ _ none _) (Value.ref _) (Value.ref _)) _ _ _); k_dflt (refine' list_slice ?sF ?sN ?sx ?ss ?sp ?sq ?sz ?_ ?su ?stt; (case sx => with_reducible assumption); (case sF => k_asm); (case sN => k_asm); (case ss => walk_at "subs"); (case sp => kmk_part); (case sq => kmk_part); (case su => with_unfolding_all rfl); (case stt => kmk_pure); (case sz => omega)); intro Dpqz hpqz wspqz Fpqz Npqz l1qz hwspqz; (have hws9qz := ListIn.ofHead (D := Dpqz) (n := 0) hwspqz); (try k_sweep))
  k_with "my setItem ref int" => (k_here; (with_reducible show wpAny _ _ (setItem (Value.ref _) (Value.int _ _) (Value.ref _)) _ _ _); refine stop_intro ?_)
  k_with "my rats" => exact RatIn.int (List.Mem.head _)
  k_with "my call ref" => (k_here; (with_reducible show wpAny _ _ (call (Value.ref 132) [_]) _ _ _); k_dflt (refine' ctr_use (sinverse_ctr _ _) ?k1 ?k2 ?k3 ?k4 ?k5 ?kK ?kp ?kd ?ku ?_); walk_at "use"; (case kp => exact ⟨by walk_at "lists", by omega, by omega, by assumption, by assumption, by assumption⟩); k_whole; intro r9qz tl9qz h9qz tk9qz F9qz N9qz fr9qz ho9qz; (simp only [List.cons_append, List.nil_append] at N9qz); obtain ⟨l9qz, e9qz, ho9qz⟩ := ho9qz; subst e9qz; (try k_fold))
  trivial
section
variable {w : World} {loose : List Str} {mean : ExcName → Option Value} {mg mb : Str → Option Value}
set_option maxHeartbeats 8000000 in
theorem sreverse_ctr (la : Addr) (xs : List Rat) : Ctr w loose mean mg mb 114 153 [.ref la]
    (fun news => ListIn (hd.heap_39 w.params) news la xs ∧ 2 ≤ xs.length ∧ xs.length ≤ 100 ∧ xs.getD 0 0 = 0 ∧ Bds 64 (pickR xs (some 1) none) ∧ (pickR xs (some 1) none).getD 0 0 ≠ 0 ∧ (∀ k, k < (pickR xs (some 1) none).length → Small (invE (pickR xs (some 1) none) k)) ∧
      Bds 64 (trn xs) ∧ (∀ j, j + 1 < xs.length → Bds 64 (powS (trn xs) j)) ∧ ∀ j, j + 1 < xs.length → ∀ k, k < min (powS (trn xs) j).length (trn xs).length → Small (mixedS (powS (trn xs) j) (trn xs) k))
    (fun tl r => ∃ l, r = .ref l ∧ ListIn (hd.heap_39 w.params) tl l (revL xs)) := by
  w_top off
  unfold Ctr
  intro dp un gd cn cs fa ccd cl outer A₀ base h₀ L m₀ news s Q E B F X N T hk hpre hdp hu hret
  obtain ⟨ha, hl2, hl9, hx0, hpb, hpn, hps, htb, hwb, hws⟩ := hpre
  have hpl := pickT_length xs (by omega)
  have htl : (trn xs).length = xs.length - 1 := by rw [trn, invL_length, hpl]
  refine wpAny_call ?_
  k_dflt ktr_enter
  rename Fr _ _ _ _ => F1
  replace F1 := fr_entry F1 [(Str.ofString "a", .ref la)] rfl
  simp only [kstB] at F1
  clear F
  k_steps
  unfold Stop
  rename Fr _ _ _ _ => F2
  rename News _ _ _ _ => N2
  rename ListIn _ _ _ (invL _ _) => ht
  rename List (Addr × Obj) => tlI
  rename Fresh _ tlI => fI
  rename _ < _ ∧ AllLt _ (_ ++ _ ++ _) => l1
  have N4 := pick2 (news := news) (tlI := tlI) N2 (by walk_at "subs")
  refine for_range (n := xs.length - 1) (fun j m₁ n₁ => ∃ D vs c Td Rd u tl, m₁ = (fun y => if y = Str.ofString "at" then u else if y = Str.ofString "raised" then some (.ref Rd) else if y = Str.ofString "found" then some (.ref D) else if y = Str.ofString "turned" then some (.ref Td) else if y = Str.ofString "a" then some (.ref la) else none) ∧ n₁ = (D, listOf vs.toArray c) :: (news ++ tl) ∧ Fresh news tl ∧ (∀ p ∈ news ++ tl, p.1 ≠ D) ∧ RatsUp (hd.heap_39 w.params) tl vs (revF xs) (j + 1) ∧ ListIn (hd.heap_39 w.params) tl Td (trn xs) ∧ ListIn (hd.heap_39 w.params) tl Rd (powS (trn xs) (min j (xs.length - 2)))) rfl (by assumption) (small_one (by omega) (by omega) (by omega) (by omega)) (by rw [rangeSize_nat]; omega) F2 N4 ?_ ?_ ?_
  · exact ⟨_, [.ref 49], 0, _, _, none, tlI, map_ext [Str.ofString "at", Str.ofString "raised", Str.ofString "found", Str.ofString "turned", Str.ofString "a"] (by walk_at "ff") (by walk_at "fg"), rfl, Fresh.anti fI (by walk_at "subs"), off_anti (fun p hp => Nat.ne_of_lt (ktn_ltOf l1.2 p hp)) (by walk_at "subs"), RatsUp.push (v := .ref 49) RatsUp.nil (fun _ h => h) r0_in, ht, by rw [Nat.zero_min]; exact ht⟩
  · rintro j tj m₁ n₁ h tk I it hj ⟨D, vs, c, Td, Rd, u, tl, rfl, rfl, hfr, hoffD, hall, hT, hR⟩ hit hoff F1 N1
    intro Rz hend
    clear F2 N2 N4
    rw [Nat.min_eq_left (by omega)] at hR
    have hID : @Ne Nat I D := fun e => hoff _ (List.mem_cons_self ..) e.symm
    have hvz : vs.toArray.size ≤ sizeLine := by rw [sizeLine_eq, List.size_toArray, hall.1]; omega
    have hwl : (powS (trn xs) j).length = xs.length - 1 := by rw [powS_length, htl]
    have hwbj := hwb j (by omega)
    have hwsj := hws j (by omega)
    have e1 : ((1 : Int) + j - 1).toNat = j := by omega
    have hnej : (((1 : Int) + j : Int) : Rat) ≠ 0 := fun e => by
      have := congrArg Rat.num e
      rw [Rat.num_intCast] at this
      have h0 : (0 : Rat).num = 0 := rfl
      omega
    have hbj : Bd 64 (((1 : Int) + j : Int) : Rat) := ⟨intBits_le_iff.mpr (by rw [Rat.num_intCast]; omega), intBits_le_iff.mpr (by show ((1 : Nat) : Int).natAbs < 2 ^ 64; decide)⟩
    k_steps
    · rename RatIn _ _ _ (_ / _) => ho
      rename ListIn _ _ _ (smulS _ _) => hl
      rw [e1] at ho
      rename News _ _ _ _ => N7
      (try simp only [List.push_toArray] at N7)
      refine hend _ _ _ _ (by assumption) (news_tail N7) (by walk_at "offs") ⟨_, _, _, _, _, _, _, map_ext [Str.ofString "at", Str.ofString "raised", Str.ofString "found", Str.ofString "turned", Str.ofString "a"] (by walk_at "ff") (by walk_at "fg"), congrArg (fun x => _ :: x) app3, by walk_at "frs", by walk_at "offs", hall.push (by walk_at "subs") (ho.mono (by walk_at "subs")), hT.mono (by walk_at "subs"), ?_⟩
      rw [Nat.min_eq_left (by omega)]
      exact hl.mono (by walk_at "subs")
    · rename RatIn _ _ _ (_ / _) => ho
      rw [e1] at ho
      rename News _ _ _ _ => N7
      (try simp only [List.push_toArray] at N7)
      refine hend _ _ _ _ (by assumption) (news_tail N7) (by walk_at "offs") ⟨_, _, _, _, _, _, _, map_ext [Str.ofString "at", Str.ofString "raised", Str.ofString "found", Str.ofString "turned", Str.ofString "a"] (by walk_at "ff") (by walk_at "fg"), congrArg (fun x => _ :: x) app2, by walk_at "frs", by walk_at "offs", hall.push (by walk_at "subs") (ho.mono (by walk_at "subs")), hT.mono (by walk_at "subs"), ?_⟩
      rw [show min (j + 1) (xs.length - 2) = j by omega]
      exact hR.mono (by walk_at "subs")
  · rintro m₁ n₁ h tk ⟨D, vs, c, Td, Rd, u, tl, rfl, rfl, hfr, hoffD, hall, hT, hR⟩ F1 N1
    clear F2 N2 N4
    k_steps
    exact hret _ ((D, listOf vs.toArray c) :: tl) _ _ (by assumption) (ktn_tl2 (by assumption)) (Fresh.consr (fun q hq => hoffD q (List.mem_append_left _ hq)) hfr)
      ⟨_, rfl, vs, c, List.mem_cons_self .., (hall.rats (by rw [revL_length]; omega) (fun i hi => (revL_getD (by omega)).symm)).mono (by walk_at "subs")⟩
end
theorem words26 : True := by
  k_with_none
  trivial
-- A13
theorem low_num {x y : Int} (hb : y < 0) : 0 - Int.fdiv x (Int.gcd x y : Int) = (Rat.divInt x y).num := by
  rw [← rat_num (x := x) (y := y) (by omega), if_neg (by omega)]
  have hg : (0 : Int) < Int.gcd x y := by
    have := Int.gcd_pos_of_ne_zero_right x (b := y) (by omega)
    omega
  obtain ⟨k, hk⟩ : (Int.gcd x y : Int) ∣ x := Int.gcd_dvd_left ..
  generalize (Int.gcd x y : Int) = g at *
  subst hk
  rw [Int.mul_fdiv_cancel_left _ (by omega), Int.zero_sub g, ← Int.neg_mul_neg, Int.mul_fdiv_cancel_left _ (by omega), Int.zero_sub]
theorem low_den {x y : Int} (hb : y < 0) : 0 - Int.fdiv y (Int.gcd x y : Int) = (Rat.divInt x y).den := by
  rw [← rat_den (x := x) (y := y) (by omega), if_neg (by omega)]
  have hg : (0 : Int) < Int.gcd x y := by
    have := Int.gcd_pos_of_ne_zero_right x (b := y) (by omega)
    omega
  obtain ⟨k, hk⟩ : (Int.gcd x y : Int) ∣ y := Int.gcd_dvd_right ..
  generalize (Int.gcd x y : Int) = g at *
  subst hk
  rw [Int.mul_fdiv_cancel_left _ (by omega), Int.zero_sub g, ← Int.neg_mul_neg, Int.mul_fdiv_cancel_left _ (by omega), Int.zero_sub]
theorem words27 : True := by
  k_with_none
  k_with "my memD" => first | exact List.mem_cons_self .. | (refine List.mem_cons_of_mem _ ?_; walk_at "memD")
  k_with "my sub" => first | assumption | (refine List.Mem.tail _ ?_; walk_at "sub") | (refine List.mem_append.mpr (Or.inl ?_); walk_at "sub") | (refine List.mem_append.mpr (Or.inr ?_); walk_at "sub")
  k_with "my subs" => (intro pqz hpqz; first | walk_at "sub" | (simp only [List.mem_append, List.mem_cons] at hpqz ⊢; (repeat' (refine Or.elim hpqz (fun hpqz => ?_) (fun hpqz => ?_))) <;> simp only [hpqz, eq_self, true_or, or_true]))
  k_with "my use" => ( (case k1 => k_asm); (case k2 => k_asm); (case k3 => k_asm); (case k4 => k_asm); (case k5 => k_asm); (case kK => first | exact rfl | assumption); (case kd => ktr_room); (case ku => ktr_units))
  k_with "my pyIter ref" => (k_here; refine stop_intro ?_)
  k_with "my subscriptTail" => (k_here; (with_reducible show wpAny _ _ (subscriptTail _ _ (Value.ref _) (Value.int _ _)) _ _ _); k_dflt (refine' list_item ?k3 ?k4 ?k5 ?k7 ?k8 ?k9 ?_ ?k6; (case k4 => with_reducible assumption); (case k3 => k_asm); (case k5 => walk_at "subs"); (case k6 => with_unfolding_all rfl); (case k7 => omega); (case k8 => omega); (case k9 => omega); k_whole); intro b9qz hb9qz)
  k_with "my call builtin:len" => (k_here; (with_reducible show wpAny _ _ (call (Value.builtin "len") [Value.ref _]) _ _ _); k_dflt (refine' list_len ?k3 ?k4 ?k5 ?k7 ?_; (case k4 => with_reducible assumption); (case k3 => k_asm); (case k5 => walk_at "subs"); (case k7 => omega); k_whole); intro _ _)
  k_with "my rats" => first | with_reducible assumption | exact RatIn.mono (by with_reducible assumption) (by walk_at "subs") | exact r0_in | exact r1_in
  k_with "my compareOp NotEq ref ref" => (k_here; (with_reducible show wpAny _ _ (compareOp CmpOp.NotEq (Value.ref _) (Value.ref _)) _ _ _); k_dflt (refine' rat_ne ?k1 ?k2 ?k3 ?k4 ?k5 ?k6 ?k7 ?k8 ?_; (case k4 => with_reducible assumption); (case k6 => first | with_reducible assumption | exact r0_in (news := [])); (case k1 => k_asm); (case k2 => k_asm); (case k3 => k_asm); (case k5 => walk_at "subs"); (case k7 => first | exact List.forall_mem_nil _ | walk_at "subs"); (case k8 => exact units_room9 (by assumption) (by decide)); k_whole))
  k_with "my bd" => first | with_reducible assumption | exact Bd.zero | exact (by with_reducible assumption : Bds _ _) _ | exact Bd.mul (by walk_at "bd") (by walk_at "bd") | exact Bd.add (by walk_at "bd") (by walk_at "bd") | exact Bd.sub (by walk_at "bd") (by walk_at "bd")
  k_with "my bds" => exact Bd.mono (by walk_at "bd") (by omega)
  k_with "my call ref" => (k_here; (with_reducible show wpAny _ _ (call (Value.ref 64) [_, _]) _ _ _); k_dflt (refine' ctr_use (radd_ctr _ _ _ _) ?k1 ?k2 ?k3 ?k4 ?k5 ?kK ?kp ?kd ?ku ?_); walk_at "use"; (case kp => exact ⟨by walk_at "rats", by walk_at "rats", by walk_at "bds", by walk_at "bds"⟩); k_whole; intro r9qz tl9qz h9qz tk9qz F9qz N9qz fr9qz ho9qz; (simp only [List.cons_append, List.nil_append] at N9qz ho9qz); obtain ⟨a9qz, e9qz⟩ := RatIn.isRef ho9qz; subst e9qz; (try k_fold))
  k_with "my call ref" => (k_here; (with_reducible show wpAny _ _ (call (Value.ref 78) [_, _]) _ _ _); k_dflt (refine' ctr_use (rmul_ctr _ _ _ _) ?k1 ?k2 ?k3 ?k4 ?k5 ?kK ?kp ?kd ?ku ?_); walk_at "use"; (case kp => exact ⟨by walk_at "rats", by walk_at "rats", by walk_at "bds", by walk_at "bds"⟩); k_whole; intro r9qz tl9qz h9qz tk9qz F9qz N9qz fr9qz ho9qz; (simp only [List.cons_append, List.nil_append] at N9qz ho9qz); obtain ⟨a9qz, e9qz⟩ := RatIn.isRef ho9qz; subst e9qz; (try k_fold))
  k_with "my ff" => exact ff_n
  k_with "my ff" => (refine ff_c rfl ?_; walk_at "ff")
  k_with "my fg" => (intro yqz hyqz; (repeat' (first | (refine ifn_l (hyqz _ ?m9) ?_; (case m9 => walk_at "fm")) | (refine ifn_r (hyqz _ ?m9) ?_; (case m9 => walk_at "fm")) | fail)); rfl)
  k_with "my fm" => first | with_reducible exact List.mem_cons_self .. | (refine List.mem_cons_of_mem _ ?_; walk_at "fm")
  k_with "my frs" => first | assumption | ((repeat' (refine Fresh.both ?_ ?_)); all_goals (first | assumption | exact Fresh.nil | exact Fresh.anti (by assumption) (by walk_at "subs")))
  k_with "my offs" => first | assumption | ((repeat' (first | refine off_app ?_ ?_ | refine off_cons ?_ ?_)); all_goals (first | assumption | exact off_fresh (by assumption) (by walk_at "memD") | exact off_anti (by assumption) (by walk_at "subs") | exact off_head (by assumption) (by walk_at "memD") | exact Ne.symm (by assumption)))
  k_with "my enterC" => (refine' code_defC ?k1 ?k2 ?k3 ?k4 ?k5 ?kA ?kF ?kK ?k6 ?k7 ?k8 ?k9 ?kB ?kD ?_ ?c2 ?c3 ?c4; (case kA => exact rfl); (case kF => exact rfl); (case kK => assumption); (case k1 => k_asm); (case k2 => k_asm); (case k3 => k_asm); (case k4 => k_asm); (case k5 => k_asm); (case k6 => k_is); (case k7 => k_is); (case k8 => ktr_room); (case k9 => exact BindsTo.of_eq rfl); (case kB => exact rfl); (case kD => decide +kernel); (case c2 => exact rfl); (case c3 => exact rfl); (case c4 => exact rfl); k_whole; intro gpqz Lpqz hpqz tkpqz cellspqz FGpqz Fpqz Npqz Ypqz Bpqz Xpqz Tpqz l1qz; k_cells Ypqz; (try simp only [List.cons_append, List.nil_append] at Npqz); (try dsimp only); (try k_fold))
  k_with "my call ref" => (k_here; (with_reducible show wpAny _ _ (call (Value.ref 120) [_, _, _]) _ _ _); k_dflt (refine' ctr_use (mixed_ctr _ _ _ _ _ _) ?k1 ?k2 ?k3 ?k4 ?k5 ?kK ?kp ?kd ?ku ?_); walk_at "use"; (case kp => walk_at "pre120"); k_whole; intro r9qz tl9qz h9qz tk9qz F9qz N9qz fr9qz ho9qz; (simp only [List.cons_append, List.nil_append] at N9qz); obtain ⟨a9qz, e9qz⟩ := RatIn.isRef ho9qz; subst e9qz; (try k_fold))
  k_with "my call ref" => (k_here; (with_reducible show wpAny _ _ (call (Value.ref 113) [_]) _ _ _); k_dflt (refine' ctr_use (let_ctr _ _) ?k1 ?k2 ?k3 ?k4 ?k5 ?kK ?kp ?kd ?ku ?_); walk_at "use"; (case kp => exact ⟨by walk_at "rats", by assumption⟩); k_whole; intro r9qz tl9qz h9qz tk9qz F9qz N9qz fr9qz ho9qz; (simp only [List.cons_append, List.nil_append] at N9qz); subst ho9qz; (try k_fold))
  k_with "my lists" => first | with_reducible assumption | exact ListIn.mono (by with_reducible assumption) (by walk_at "subs")
  k_with "my pre120" => exact ⟨by walk_at "lists", by walk_at "lists", by omega, by omega, by omega, by omega, by assumption, by assumption⟩
  k_with "my call ref" => (k_here; (with_reducible show wpAny _ _ (call (Value.ref 71) [_, _]) _ _ _); k_dflt (refine' ctr_use (rsub_ctr _ _ _ _) ?k1 ?k2 ?k3 ?k4 ?k5 ?kK ?kp ?kd ?ku ?_); walk_at "use"; (case kp => exact ⟨by walk_at "rats", by walk_at "rats", by walk_at "bds", by walk_at "bds"⟩); k_whole; intro r9qz tl9qz h9qz tk9qz F9qz N9qz fr9qz ho9qz; (simp only [List.cons_append, List.nil_append] at N9qz); obtain ⟨a9qz, e9qz⟩ := RatIn.isRef ho9qz; subst e9qz; (try k_fold))
  k_with "my call ref" => (k_here; (with_reducible show wpAny _ _ (call (Value.ref 85) [_, _]) _ _ _); k_dflt (refine' ctr_use (rdiv_ctr _ _ _ _) ?k1 ?k2 ?k3 ?k4 ?k5 ?kK ?kp ?kd ?ku ?_); walk_at "use"; (case kp => exact ⟨by walk_at "rats", by walk_at "rats", by walk_at "bds", by walk_at "bds", by assumption⟩); k_whole; intro r9qz tl9qz h9qz tk9qz F9qz N9qz fr9qz ho9qz; (simp only [List.cons_append, List.nil_append] at N9qz); obtain ⟨a9qz, e9qz⟩ := RatIn.isRef ho9qz; subst e9qz; (try k_fold))
  k_with "my compareOp Eq ref ref" => (k_here; (with_reducible show wpAny _ _ (compareOp CmpOp.Eq (Value.ref _) (Value.ref _)) _ _ _); k_dflt (refine' rat_eq ?k1 ?k2 ?k3 ?k4 ?k5 ?k6 ?k7 ?k8 ?_; (case k4 => with_reducible assumption); (case k6 => first | with_reducible assumption | exact r0_in (news := [])); (case k1 => k_asm); (case k2 => k_asm); (case k3 => k_asm); (case k5 => walk_at "subs"); (case k7 => first | exact List.forall_mem_nil _ | walk_at "subs"); (case k8 => exact units_room9 (by assumption) (by decide)); k_whole))
  k_with "my call builtin:list.append" => (k_here; (with_reducible show wpAny _ _ (call (Value.builtin _) [Value.ref _, _]) _ _ _); k_dflt (refine' append_K ?k1 ?k2 ?k3 ?_ ?z; (case k1 => k_asm); (case k2 => k_asm); (case k3 => first | exact Upd.head (by walk_at "offs") | exact Upd.tail (by first | assumption | exact Ne.symm (by assumption)) (Upd.head (by walk_at "offs"))); (case z => assumption); k_whole); intro hpqz Fpqz Npqz; (simp only [List.push_toArray] at Npqz); (try k_sweep))
  k_with "my call ref" => (k_here; (with_reducible show wpAny _ _ (call (Value.ref 125) [_, _]) _ _ _); k_dflt (refine' ctr_use (smul_ctr _ _ _ _) ?k1 ?k2 ?k3 ?k4 ?k5 ?kK ?kp ?kd ?ku ?_); walk_at "use"; (case kp => exact ⟨by walk_at "lists", by walk_at "lists", by first | assumption | omega, by first | assumption | omega, by assumption, by assumption, by assumption⟩); k_whole; intro r9qz tl9qz h9qz tk9qz F9qz N9qz fr9qz ho9qz; (simp only [List.cons_append, List.nil_append] at N9qz); obtain ⟨l9qz, e9qz, ho9qz⟩ := ho9qz; subst e9qz; (try k_fold))
  k_with "my call ref" => (k_here; (with_reducible show wpAny _ _ (call (Value.ref 139) [_, Value.ref 49]) _ _ _); k_dflt (refine' ctr_use (need_begin_ctr _ _) ?k1 ?k2 ?k3 ?k4 ?k5 ?kK ?kp ?kd ?ku ?_); walk_at "use"; (case kp => exact ⟨by walk_at "lists", by omega, by omega, by assumption⟩); k_whole; intro r9qz tl9qz h9qz tk9qz F9qz N9qz fr9qz ho9qz; (try simp only [List.cons_append, List.nil_append] at N9qz); subst ho9qz; (try k_fold))
  k_with "my call ref" => (k_here; (with_reducible show wpAny _ _ (call (Value.ref 106) [_, _]) _ _ _); refine stop_intro ?_)
  k_with "my subscriptTail Name Slice ref ref" => (k_here; (with_reducible show wpAny _ _ (subscriptTail _ (PySem.Expr.Slice _ _ none _) (Value.ref _) (Value.ref _)) _ _ _); k_dflt (refine' list_slice ?sF ?sN ?sx ?ss ?sp ?sq ?sz ?_ ?su ?stt; (case sx => with_reducible assumption); (case sF => k_asm); (case sN => k_asm); (case ss => walk_at "subs"); (case sp => kmk_part); (case sq => kmk_part); (case su => with_unfolding_all rfl); (case stt => kmk_pure); (case sz => omega)); intro Dpqz hpqz wspqz Fpqz Npqz l1qz hwspqz; (have hws9qz := ListIn.ofHead (D := Dpqz) (n := 0) hwspqz); (try k_sweep))
  k_with "my setItem ref int" => (k_here; (with_reducible show wpAny _ _ (setItem (Value.ref _) (Value.int _ _) (Value.ref _)) _ _ _); refine stop_intro ?_)
  k_with "my rats" => exact RatIn.int (List.Mem.head _)
  k_with "my call ref" => (k_here; (with_reducible show wpAny _ _ (call (Value.ref 132) [_]) _ _ _); k_dflt (refine' ctr_use (sinverse_ctr _ _) ?k1 ?k2 ?k3 ?k4 ?k5 ?kK ?kp ?kd ?ku ?_); walk_at "use"; (case kp => exact ⟨by walk_at "lists", by omega, by omega, by assumption, by assumption, by assumption⟩); k_whole; intro r9qz tl9qz h9qz tk9qz F9qz N9qz fr9qz ho9qz; (simp only [List.cons_append, List.nil_append] at N9qz); obtain ⟨l9qz, e9qz, ho9qz⟩ := ho9qz; subst e9qz; (try k_fold))
  k_with "my binaryOp FloorDiv int int" => (k_here; (refine' floordiv_int ?kne ?_ ?kroom); (case kne => omega); (case kroom => exact Or.inr (PylongRoom.of (PySem.Heap.NoLimit.keeps (Top.nolimit (by assumption)) (Fr.keep (by assumption))) (depth_room (by assumption) (by decide)))); k_whole)
  k_with "my exec While Compare cons nil" => (k_here; refine stop_intro ?_)
  trivial
section
variable {w : World} {loose : List Str} {mean : ExcName → Option Value} {mg mb : Str → Option Value}
set_option maxHeartbeats 8000000 in
theorem lowest_ctr (x y : Int) (tx ty : Tok) : Ctr w loose mean mg mb 104 167 [.int x tx, .int y ty] (fun _ => y ≠ 0) (fun tl r => RatIn (hd.heap_39 w.params) tl r (Rat.divInt x y)) := by
  w_top off
  unfold Ctr
  intro dp un gd cn cs fa ccd cl outer A₀ base h₀ L m news s Q E B F X N T hk hpre hdp hu hret
  have hg : (0 : Int) < Int.gcd x y := by
    have := Int.gcd_pos_of_ne_zero_right x hpre
    omega
  refine wpAny_call ?_
  k_dflt ktr_enter
  rename Fr _ _ _ _ => F1
  replace F1 := fr_entry F1 [(Str.ofString "bottom", .int y ty), (Str.ofString "top", .int x tx)] rfl
  simp only [kstB] at F1
  clear F
  k_steps
  unfold Stop
  rename Fr _ _ _ _ => F1
  rename News _ _ _ _ => N1
  refine while_rule (σ := Int × Int) (fun c m₁ n₁ => ∃ ta tb tl, m₁ = (fun y' => if y' = Str.ofString "other" then some (.int c.2 tb) else if y' = Str.ofString "one" then some (.int c.1 ta) else if y' = Str.ofString "bottom" then some (.int y ty) else if y' = Str.ofString "top" then some (.int x tx) else none) ∧ n₁ = news ++ tl ∧ Fresh news tl ∧ 0 ≤ c.1 ∧ 0 ≤ c.2 ∧ Int.gcd c.1 c.2 = Int.gcd x y) (fun c => c.2.toNat) (if x < 0 then -x else x, if y < 0 then -y else y) F1 (ktn_tl1 N1) ?_ ?_
  · refine ⟨_, _, _, map_ext [Str.ofString "other", Str.ofString "one", Str.ofString "bottom", Str.ofString "top"] (by walk_at "ff") (by walk_at "fg"), rfl, Fresh.ord1 (allLt_of (by assumption)), by dsimp only; omega, by dsimp only; omega, ?_⟩
    dsimp only
    split <;> split <;> simp
  · rintro ⟨a, b⟩ m₁ n₁ h tk ⟨ta, tb, tl, rfl, rfl, hfr, ha, hb, hgc⟩ F1 N1
    have h1 : b = 0 → a = Int.gcd x y := fun e => by
      dsimp only at ha hb hgc
      rw [← hgc, e, Int.gcd_zero_right]
      omega
    dsimp only at ha hb hgc
    dsimp only at F1
    k_steps
    · rename b ≠ 0 => hne
      refine WEnd.mk (b, a.fmod b) (by assumption) (ktn_tl2 (by assumption)) ?_ ⟨_, _, _, map_ext [Str.ofString "other", Str.ofString "one", Str.ofString "bottom", Str.ofString "top"] (by walk_at "ff") (by walk_at "fg"), rfl, Fresh.ord2 (by ktn_lt) hfr, hb, ?_, ?_⟩
      · dsimp only
        have := Int.fmod_lt_of_pos a (b := b) (by omega)
        have := Int.fmod_nonneg_of_pos a (b := b) (by omega)
        omega
      · exact Int.fmod_nonneg_of_pos a (b := b) (by omega)
      · dsimp only
        rw [gcd_step ha hb, hgc]
    · rename b = 0 => hb0
      have ea := h1 hb0
      subst ea
      have e1 := rat_num (x := x) hpre
      have e2 := rat_den (x := x) hpre
      rw [if_pos (by assumption)] at e1 e2
      rename News _ _ _ _ => N9
      exact hret _ _ _ _ (by assumption) (ktn_tl2 N9) (Fresh.ord2 (by ktn_lt) hfr) (RatIn.new (List.mem_cons_self ..) e1 e2)
    · rename b = 0 => hb0
      have ea := h1 hb0
      subst ea
      have e1 := low_num (x := x) (y := y) (by omega)
      have e2 := low_den (x := x) (y := y) (by omega)
      rename News _ _ _ _ => N9
      exact hret _ _ _ _ (by assumption) (ktn_tl2 N9) (Fresh.ord2 (by ktn_lt) hfr) (RatIn.new (List.mem_cons_self ..) e1 e2)
end
theorem words28 : True := by
  k_with_none
  trivial
-- A14
section
variable {prog : Program} {w : World} {A : Around} {E : Value → Shared → Prop} {s : Shared} {K : Frag} {a L : Addr} {h₀ : Heap} {m : Str → Option Value} {news news₀ : List (Addr × Obj)} {x : Rat} {Q : List Value → Shared → Prop}
theorem rat_unpack (F : Fr h₀ L s.heap m) (X : K.In h₀) (N : News h₀ L s.heap news) (hx : RatIn K news₀ (.ref a) x) (hs : ∀ p ∈ news₀, p ∈ news) (hh : A.handled = none)
    (h : ∀ h' t u, Fr h₀ L h' m → News h₀ L h' news → Q [.int x.num t, .int x.den u] { s with heap := h' }) : wpAny (model prog w) A (unpackItems (.ref a) 2 none) Q E s := by
  obtain ⟨t, v, ht⟩ := (hx.mono hs).tup F X N
  exact unpackItemsN_ (items := #[.int x.num t, .int x.den v]) F N ht hh rfl fun h' F' N' => h h' t v F' N'
theorem rat_assign {elts : List Expr} {k} {pos : Pos} {env : Env} {Q : Unit → Shared → Prop} (F : Fr h₀ L s.heap m) (X : K.In h₀) (N : News h₀ L s.heap news) (hx : RatIn K news₀ (.ref a) x) (hs : ∀ p ∈ news₀, p ∈ news) (hh : A.handled = none)
    (hn : (assignEach elts env).length = 2) (hstar : (assignEach elts env).findIdx? (·.1) = none)
    (h : ∀ h' t u, Fr h₀ L h' m → News h₀ L h' news → wpAny (model prog w) A (assignInOrder ((assignEach elts env).map (·.2)) [.int x.num t, .int x.den u]) Q E { s with heap := h' }) : wpAny (model prog w) A (assign (.Tuple elts k pos) env (.ref a)) Q E s := by
  obtain ⟨t, v, ht⟩ := (hx.mono hs).tup F X N
  exact unpackN_ F N ht hh hn hstar fun h' F' N' => h h' t v F' N'
end
theorem off_consP {I D : Addr} {o : Obj} {B : List (Addr × Obj)} (h : D ≠ I) (k : ∀ p ∈ B, p.1 ≠ I) : ∀ p ∈ (D, o) :: B, p.1 ≠ I := fun p hp => (List.mem_cons.mp hp).elim (fun e => e ▸ h) (k p)
theorem move_head {h₀ h : Heap} {L : Addr} {p q r : Addr × Obj} {news A B : List (Addr × Obj)} (N : News h₀ L h (p :: q :: r :: (news ++ A ++ B))) : News h₀ L h (q :: r :: (news ++ (p :: (A ++ B)))) := cb_drop N fun x hx => by
  simp only [List.mem_cons, List.mem_append] at hx ⊢
  grind
theorem times_eq (z x y : Rat) : Rat.divInt (z.num * x.den * y.den + x.num * y.num * z.den) (z.den * x.den * y.den) = z + x * y := by
  conv => rhs; rw [← Rat.num_divInt_den z, ← Rat.num_divInt_den x, ← Rat.num_divInt_den y]
  rw [Rat.divInt_mul_divInt, Rat.divInt_add_divInt _ _ (den_ne z) (Int.mul_ne_zero (den_ne x) (den_ne y))]
  congr 1
  · rw [Int.mul_assoc]
  · rw [Int.mul_assoc]
def timesS (xs ys : List Rat) : List Rat := (List.range xs.length).map (mixedS xs ys)
theorem timesS_length (xs ys : List Rat) : (timesS xs ys).length = xs.length := by simp [timesS]
theorem timesS_getD {xs ys : List Rat} {k : Nat} (h : k < xs.length) : (timesS xs ys).getD k 0 = mixedS xs ys k := by
  simp [timesS, List.getD, List.getElem?_map, List.getElem?_range h]
theorem words29 : True := by
  k_with_none
  k_with "my memD" => first | exact List.mem_cons_self .. | (refine List.mem_cons_of_mem _ ?_; walk_at "memD")
  k_with "my sub" => first | assumption | (refine List.Mem.tail _ ?_; walk_at "sub") | (refine List.mem_append.mpr (Or.inl ?_); walk_at "sub") | (refine List.mem_append.mpr (Or.inr ?_); walk_at "sub")
  k_with "my subs" => (intro pqz hpqz; first | walk_at "sub" | (simp only [List.mem_append, List.mem_cons] at hpqz ⊢; (repeat' (refine Or.elim hpqz (fun hpqz => ?_) (fun hpqz => ?_))) <;> simp only [hpqz, eq_self, true_or, or_true]))
  k_with "my use" => ( (case k1 => k_asm); (case k2 => k_asm); (case k3 => k_asm); (case k4 => k_asm); (case k5 => k_asm); (case kK => first | exact rfl | assumption); (case kd => ktr_room); (case ku => ktr_units))
  k_with "my pyIter ref" => (k_here; refine stop_intro ?_)
  k_with "my subscriptTail" => (k_here; (with_reducible show wpAny _ _ (subscriptTail _ _ (Value.ref _) (Value.int _ _)) _ _ _); k_dflt (refine' list_item ?k3 ?k4 ?k5 ?k7 ?k8 ?k9 ?_ ?k6; (case k4 => with_reducible assumption); (case k3 => k_asm); (case k5 => walk_at "subs"); (case k6 => with_unfolding_all rfl); (case k7 => omega); (case k8 => omega); (case k9 => omega); k_whole); intro b9qz hb9qz)
  k_with "my call builtin:len" => (k_here; (with_reducible show wpAny _ _ (call (Value.builtin "len") [Value.ref _]) _ _ _); k_dflt (refine' list_len ?k3 ?k4 ?k5 ?k7 ?_; (case k4 => with_reducible assumption); (case k3 => k_asm); (case k5 => walk_at "subs"); (case k7 => omega); k_whole); intro _ _)
  k_with "my rats" => first | with_reducible assumption | exact RatIn.mono (by with_reducible assumption) (by walk_at "subs") | exact r0_in | exact r1_in
  k_with "my compareOp NotEq ref ref" => (k_here; (with_reducible show wpAny _ _ (compareOp CmpOp.NotEq (Value.ref _) (Value.ref _)) _ _ _); k_dflt (refine' rat_ne ?k1 ?k2 ?k3 ?k4 ?k5 ?k6 ?k7 ?k8 ?_; (case k4 => with_reducible assumption); (case k6 => first | with_reducible assumption | exact r0_in (news := [])); (case k1 => k_asm); (case k2 => k_asm); (case k3 => k_asm); (case k5 => walk_at "subs"); (case k7 => first | exact List.forall_mem_nil _ | walk_at "subs"); (case k8 => exact units_room9 (by assumption) (by decide)); k_whole))
  k_with "my bd" => first | with_reducible assumption | exact Bd.zero | exact (by with_reducible assumption : Bds _ _) _ | exact Bd.mul (by walk_at "bd") (by walk_at "bd") | exact Bd.add (by walk_at "bd") (by walk_at "bd") | exact Bd.sub (by walk_at "bd") (by walk_at "bd")
  k_with "my bds" => exact Bd.mono (by walk_at "bd") (by omega)
  k_with "my call ref" => (k_here; (with_reducible show wpAny _ _ (call (Value.ref 64) [_, _]) _ _ _); k_dflt (refine' ctr_use (radd_ctr _ _ _ _) ?k1 ?k2 ?k3 ?k4 ?k5 ?kK ?kp ?kd ?ku ?_); walk_at "use"; (case kp => exact ⟨by walk_at "rats", by walk_at "rats", by walk_at "bds", by walk_at "bds"⟩); k_whole; intro r9qz tl9qz h9qz tk9qz F9qz N9qz fr9qz ho9qz; (simp only [List.cons_append, List.nil_append] at N9qz ho9qz); obtain ⟨a9qz, e9qz⟩ := RatIn.isRef ho9qz; subst e9qz; (try k_fold))
  k_with "my call ref" => (k_here; (with_reducible show wpAny _ _ (call (Value.ref 78) [_, _]) _ _ _); k_dflt (refine' ctr_use (rmul_ctr _ _ _ _) ?k1 ?k2 ?k3 ?k4 ?k5 ?kK ?kp ?kd ?ku ?_); walk_at "use"; (case kp => exact ⟨by walk_at "rats", by walk_at "rats", by walk_at "bds", by walk_at "bds"⟩); k_whole; intro r9qz tl9qz h9qz tk9qz F9qz N9qz fr9qz ho9qz; (simp only [List.cons_append, List.nil_append] at N9qz ho9qz); obtain ⟨a9qz, e9qz⟩ := RatIn.isRef ho9qz; subst e9qz; (try k_fold))
  k_with "my ff" => exact ff_n
  k_with "my ff" => (refine ff_c rfl ?_; walk_at "ff")
  k_with "my fg" => (intro yqz hyqz; (repeat' (first | (refine ifn_l (hyqz _ ?m9) ?_; (case m9 => walk_at "fm")) | (refine ifn_r (hyqz _ ?m9) ?_; (case m9 => walk_at "fm")) | fail)); rfl)
  k_with "my fm" => first | with_reducible exact List.mem_cons_self .. | (refine List.mem_cons_of_mem _ ?_; walk_at "fm")
  k_with "my frs" => first | assumption | ((repeat' (refine Fresh.both ?_ ?_)); all_goals (first | assumption | exact Fresh.nil | exact Fresh.anti (by assumption) (by walk_at "subs")))
  k_with "my offs" => first | assumption | ((repeat' (first | refine off_app ?_ ?_ | refine off_cons ?_ ?_)); all_goals (first | assumption | exact off_fresh (by assumption) (by walk_at "memD") | exact off_anti (by assumption) (by walk_at "subs") | exact off_head (by assumption) (by walk_at "memD") | exact Ne.symm (by assumption)))
  k_with "my enterC" => (refine' code_defC ?k1 ?k2 ?k3 ?k4 ?k5 ?kA ?kF ?kK ?k6 ?k7 ?k8 ?k9 ?kB ?kD ?_ ?c2 ?c3 ?c4; (case kA => exact rfl); (case kF => exact rfl); (case kK => assumption); (case k1 => k_asm); (case k2 => k_asm); (case k3 => k_asm); (case k4 => k_asm); (case k5 => k_asm); (case k6 => k_is); (case k7 => k_is); (case k8 => ktr_room); (case k9 => exact BindsTo.of_eq rfl); (case kB => exact rfl); (case kD => decide +kernel); (case c2 => exact rfl); (case c3 => exact rfl); (case c4 => exact rfl); k_whole; intro gpqz Lpqz hpqz tkpqz cellspqz FGpqz Fpqz Npqz Ypqz Bpqz Xpqz Tpqz l1qz; k_cells Ypqz; (try simp only [List.cons_append, List.nil_append] at Npqz); (try dsimp only); (try k_fold))
  k_with "my call ref" => (k_here; (with_reducible show wpAny _ _ (call (Value.ref 120) [_, _, _]) _ _ _); k_dflt (refine' ctr_use (mixed_ctr _ _ _ _ _ _) ?k1 ?k2 ?k3 ?k4 ?k5 ?kK ?kp ?kd ?ku ?_); walk_at "use"; (case kp => walk_at "pre120"); k_whole; intro r9qz tl9qz h9qz tk9qz F9qz N9qz fr9qz ho9qz; (simp only [List.cons_append, List.nil_append] at N9qz); obtain ⟨a9qz, e9qz⟩ := RatIn.isRef ho9qz; subst e9qz; (try k_fold))
  k_with "my call ref" => (k_here; (with_reducible show wpAny _ _ (call (Value.ref 113) [_]) _ _ _); k_dflt (refine' ctr_use (let_ctr _ _) ?k1 ?k2 ?k3 ?k4 ?k5 ?kK ?kp ?kd ?ku ?_); walk_at "use"; (case kp => exact ⟨by walk_at "rats", by assumption⟩); k_whole; intro r9qz tl9qz h9qz tk9qz F9qz N9qz fr9qz ho9qz; (simp only [List.cons_append, List.nil_append] at N9qz); subst ho9qz; (try k_fold))
  k_with "my lists" => first | with_reducible assumption | exact ListIn.mono (by with_reducible assumption) (by walk_at "subs")
  k_with "my pre120" => exact ⟨by walk_at "lists", by walk_at "lists", by omega, by omega, by omega, by omega, by assumption, by assumption⟩
  k_with "my call ref" => (k_here; (with_reducible show wpAny _ _ (call (Value.ref 71) [_, _]) _ _ _); k_dflt (refine' ctr_use (rsub_ctr _ _ _ _) ?k1 ?k2 ?k3 ?k4 ?k5 ?kK ?kp ?kd ?ku ?_); walk_at "use"; (case kp => exact ⟨by walk_at "rats", by walk_at "rats", by walk_at "bds", by walk_at "bds"⟩); k_whole; intro r9qz tl9qz h9qz tk9qz F9qz N9qz fr9qz ho9qz; (simp only [List.cons_append, List.nil_append] at N9qz); obtain ⟨a9qz, e9qz⟩ := RatIn.isRef ho9qz; subst e9qz; (try k_fold))
  k_with "my call ref" => (k_here; (with_reducible show wpAny _ _ (call (Value.ref 85) [_, _]) _ _ _); k_dflt (refine' ctr_use (rdiv_ctr _ _ _ _) ?k1 ?k2 ?k3 ?k4 ?k5 ?kK ?kp ?kd ?ku ?_); walk_at "use"; (case kp => exact ⟨by walk_at "rats", by walk_at "rats", by walk_at "bds", by walk_at "bds", by assumption⟩); k_whole; intro r9qz tl9qz h9qz tk9qz F9qz N9qz fr9qz ho9qz; (simp only [List.cons_append, List.nil_append] at N9qz); obtain ⟨a9qz, e9qz⟩ := RatIn.isRef ho9qz; subst e9qz; (try k_fold))
  k_with "my compareOp Eq ref ref" => (k_here; (with_reducible show wpAny _ _ (compareOp CmpOp.Eq (Value.ref _) (Value.ref _)) _ _ _); k_dflt (refine' rat_eq ?k1 ?k2 ?k3 ?k4 ?k5 ?k6 ?k7 ?k8 ?_; (case k4 => with_reducible assumption); (case k6 => first | with_reducible assumption | exact r0_in (news := [])); (case k1 => k_asm); (case k2 => k_asm); (case k3 => k_asm); (case k5 => walk_at "subs"); (case k7 => first | exact List.forall_mem_nil _ | walk_at "subs"); (case k8 => exact units_room9 (by assumption) (by decide)); k_whole))
  k_with "my call builtin:list.append" => (k_here; (with_reducible show wpAny _ _ (call (Value.builtin _) [Value.ref _, _]) _ _ _); k_dflt (refine' append_K ?k1 ?k2 ?k3 ?_ ?z; (case k1 => k_asm); (case k2 => k_asm); (case k3 => first | exact Upd.head (by walk_at "offs") | exact Upd.tail (by first | assumption | exact Ne.symm (by assumption)) (Upd.head (by walk_at "offs"))); (case z => assumption); k_whole); intro hpqz Fpqz Npqz; (simp only [List.push_toArray] at Npqz); (try k_sweep))
  k_with "my call ref" => (k_here; (with_reducible show wpAny _ _ (call (Value.ref 125) [_, _]) _ _ _); k_dflt (refine' ctr_use (smul_ctr _ _ _ _) ?k1 ?k2 ?k3 ?k4 ?k5 ?kK ?kp ?kd ?ku ?_); walk_at "use"; (case kp => exact ⟨by walk_at "lists", by walk_at "lists", by first | assumption | omega, by first | assumption | omega, by assumption, by assumption, by assumption⟩); k_whole; intro r9qz tl9qz h9qz tk9qz F9qz N9qz fr9qz ho9qz; (simp only [List.cons_append, List.nil_append] at N9qz); obtain ⟨l9qz, e9qz, ho9qz⟩ := ho9qz; subst e9qz; (try k_fold))
  k_with "my call ref" => (k_here; (with_reducible show wpAny _ _ (call (Value.ref 139) [_, Value.ref 49]) _ _ _); k_dflt (refine' ctr_use (need_begin_ctr _ _) ?k1 ?k2 ?k3 ?k4 ?k5 ?kK ?kp ?kd ?ku ?_); walk_at "use"; (case kp => exact ⟨by walk_at "lists", by omega, by omega, by assumption⟩); k_whole; intro r9qz tl9qz h9qz tk9qz F9qz N9qz fr9qz ho9qz; (try simp only [List.cons_append, List.nil_append] at N9qz); subst ho9qz; (try k_fold))
  k_with "my call ref" => (k_here; (with_reducible show wpAny _ _ (call (Value.ref 106) [_, _]) _ _ _); refine stop_intro ?_)
  k_with "my subscriptTail Name Slice ref ref" => (k_here; (with_reducible show wpAny _ _ (subscriptTail _ (PySem.Expr.Slice _ _ none _) (Value.ref _) (Value.ref _)) _ _ _); k_dflt (refine' list_slice ?sF ?sN ?sx ?ss ?sp ?sq ?sz ?_ ?su ?stt; (case sx => with_reducible assumption); (case sF => k_asm); (case sN => k_asm); (case ss => walk_at "subs"); (case sp => kmk_part); (case sq => kmk_part); (case su => with_unfolding_all rfl); (case stt => kmk_pure); (case sz => omega)); intro Dpqz hpqz wspqz Fpqz Npqz l1qz hwspqz; (have hws9qz := ListIn.ofHead (D := Dpqz) (n := 0) hwspqz); (try k_sweep))
  k_with "my setItem ref int" => (k_here; (with_reducible show wpAny _ _ (setItem (Value.ref _) (Value.int _ _) (Value.ref _)) _ _ _); refine stop_intro ?_)
  k_with "my rats" => exact RatIn.int (List.Mem.head _)
  k_with "my call ref" => (k_here; (with_reducible show wpAny _ _ (call (Value.ref 132) [_]) _ _ _); k_dflt (refine' ctr_use (sinverse_ctr _ _) ?k1 ?k2 ?k3 ?k4 ?k5 ?kK ?kp ?kd ?ku ?_); walk_at "use"; (case kp => exact ⟨by walk_at "lists", by omega, by omega, by assumption, by assumption, by assumption⟩); k_whole; intro r9qz tl9qz h9qz tk9qz F9qz N9qz fr9qz ho9qz; (simp only [List.cons_append, List.nil_append] at N9qz); obtain ⟨l9qz, e9qz, ho9qz⟩ := ho9qz; subst e9qz; (try k_fold))
  k_with "my binaryOp FloorDiv int int" => (k_here; (refine' floordiv_int ?kne ?_ ?kroom); (case kne => omega); (case kroom => exact Or.inr (PylongRoom.of (PySem.Heap.NoLimit.keeps (Top.nolimit (by assumption)) (Fr.keep (by assumption))) (depth_room (by assumption) (by decide)))); k_whole)
  k_with "my exec While Compare cons nil" => (k_here; refine stop_intro ?_)
  k_with "my subscriptTail" => (k_here; (with_reducible show wpAny _ _ (subscriptTail _ _ (Value.ref _) (Value.int 0 _)) _ _ _); k_dflt (refine' rat_item0 ?k1 ?k2 ?k3 ?k4 ?k5 ?_ ?k6; (case k4 => with_reducible assumption); (case k1 => k_asm); (case k2 => k_asm); (case k3 => k_asm); (case k5 => walk_at "subs"); (case k6 => with_unfolding_all rfl); k_whole); intro _)
  k_with "my subscriptTail" => (k_here; (with_reducible show wpAny _ _ (subscriptTail _ _ (Value.ref _) (Value.int 1 _)) _ _ _); k_dflt (refine' rat_item1 ?k1 ?k2 ?k3 ?k4 ?k5 ?_ ?k6; (case k4 => with_reducible assumption); (case k1 => k_asm); (case k2 => k_asm); (case k3 => k_asm); (case k5 => walk_at "subs"); (case k6 => with_unfolding_all rfl); k_whole); intro _)
  k_with "my unpackItems ref" => (k_here; (with_reducible show wpAny _ _ (unpackItems (Value.ref _) 2 none) _ _ _); k_dflt (refine' rat_unpack ?k1 ?k2 ?k3 ?k4 ?k5 ?k6 ?_; (case k4 => with_reducible assumption); (case k1 => k_asm); (case k2 => k_asm); (case k3 => k_asm); (case k5 => walk_at "subs"); (case k6 => exact rfl); k_whole); intro hpqz tpqz upqz Fpqz Npqz; (try k_sweep))
  k_with "my call ref" => (k_here; (with_reducible show wpAny _ _ (call (Value.ref 167) [_, _]) _ _ _); k_dflt (refine' ctr_use (lowest_ctr _ _ _ _) ?k1 ?k2 ?k3 ?k4 ?k5 ?kK ?kp ?kd ?ku ?_); walk_at "use"; (case kp => first | assumption | exact Int.mul_ne_zero (Int.mul_ne_zero (den_ne _) (den_ne _)) (den_ne _)); k_whole; intro r9qz tl9qz h9qz tk9qz F9qz N9qz fr9qz ho9qz; (simp only [List.cons_append, List.nil_append] at N9qz); obtain ⟨a9qz, e9qz⟩ := RatIn.isRef ho9qz; subst e9qz; (try k_fold))
  k_with "my assign Tuple" => (k_here; (with_reducible show wpAny _ _ (assign (Expr.Tuple _ _ _) _ (Value.ref _)) _ _ _); k_dflt (refine' rat_assign ?k1 ?k2 ?k3 ?k4 ?k5 ?k6 ?k7 ?k8 ?_; (case k4 => with_reducible assumption); (case k1 => k_asm); (case k2 => k_asm); (case k3 => k_asm); (case k5 => walk_at "subs"); (case k6 => exact rfl); (case k7 => exact rfl); (case k8 => exact rfl); k_whole); intro hpqz tpqz upqz Fpqz Npqz; (try k_sweep))
  trivial
section
variable {w : World} {loose : List Str} {mean : ExcName → Option Value} {mg mb : Str → Option Value}
set_option maxHeartbeats 8000000 in
theorem times_ctr (la lb : Addr) (xs ys : List Rat) : Ctr w loose mean mg mb 108 174 [.ref la, .ref lb]
    (fun news => ListIn (hd.heap_39 w.params) news la xs ∧ ListIn (hd.heap_39 w.params) news lb ys ∧ xs.length ≤ ys.length ∧ ys.length ≤ 100 ∧ Bds 64 xs ∧ Bds 64 ys)
    (fun tl r => ∃ l, r = .ref l ∧ ListIn (hd.heap_39 w.params) tl l (timesS xs ys)) := by
  w_top off
  unfold Ctr
  intro dp un gd cn cs fa ccd cl outer A₀ base h₀ L m news s Q E B F X N T hk hpre hdp hu hret
  obtain ⟨ha, hb, hl1, hl2, hx, hy⟩ := hpre
  refine wpAny_call ?_
  k_dflt ktr_enter
  rename Fr _ _ _ _ => F1
  replace F1 := fr_entry F1 [(Str.ofString "b", .ref lb), (Str.ofString "a", .ref la)] rfl
  simp only [kstB] at F1
  clear F
  k_steps
  unfold Stop
  rename Fr _ _ _ _ => F2
  rename News _ _ _ _ => N2
  rename ∀ p ∈ news, p.1 < _ => l1
  refine for_range (n := xs.length) (fun i m₁ n₁ => ∃ D vs c u1 u2 u3 u4 u5 u6 tl, m₁ = (fun y => if y = Str.ofString "at" then u1 else if y = Str.ofString "spot" then u2 else if y = Str.ofString "top" then u3 else if y = Str.ofString "bottom" then u4 else if y = Str.ofString "one" then u5 else if y = Str.ofString "other" then u6 else if y = Str.ofString "found" then some (.ref D) else if y = Str.ofString "b" then some (.ref lb) else if y = Str.ofString "a" then some (.ref la) else none) ∧ n₁ = (D, listOf vs.toArray c) :: (news ++ tl) ∧ Fresh news tl ∧ (∀ p ∈ news ++ tl, p.1 ≠ D) ∧ RatsUp (hd.heap_39 w.params) tl vs (mixedS xs ys) i) rfl (by assumption) (small_one (by omega) (by omega) (by omega) (by omega)) (rangeSize_nat _ _) F2 N2 ?_ ?_ ?_
  · exact ⟨_, [], 0, none, none, none, none, none, none, [], map_ext [Str.ofString "at", Str.ofString "spot", Str.ofString "top", Str.ofString "bottom", Str.ofString "one", Str.ofString "other", Str.ofString "found", Str.ofString "b", Str.ofString "a"] (by walk_at "ff") (by walk_at "fg"), by rw [List.append_nil], Fresh.nil, by rw [List.append_nil]; exact fun p hp => Nat.ne_of_lt (l1 p hp), RatsUp.nil⟩
  · rintro i ti m₁ n₁ h tk I it hi ⟨D, vs, c, u1, u2, u3, u4, u5, u6, tl, rfl, rfl, hfr, hoffD, hall⟩ hit hoff F1 N1
    intro Rz hend
    clear F2 N2
    have hID : @Ne Nat I D := fun e => hoff _ (List.mem_cons_self ..) e.symm
    have hvz : vs.toArray.size ≤ sizeLine := by rw [sizeLine_eq, List.size_toArray, hall.1]; omega
    k_steps
    unfold Stop
    rename Fr _ _ _ _ => F2
    rename News _ _ _ _ => N2
    have N3 : News _ _ _ ((I, it) :: (D, listOf vs.toArray c) :: (news ++ tl)) := cb_drop N2 (by walk_at "subs")
    refine for_range (n := i + 1) (fun j m₂ n₂ => ∃ tn td u2 u5 u6 tl2, m₂ = (fun y => if y = Str.ofString "spot" then u2 else if y = Str.ofString "top" then some (.int (mixedTo xs ys i j).num tn) else if y = Str.ofString "bottom" then some (.int (mixedTo xs ys i j).den td) else if y = Str.ofString "one" then u5 else if y = Str.ofString "other" then u6 else if y = Str.ofString "at" then some (.int (0 + i) ti) else if y = Str.ofString "found" then some (.ref D) else if y = Str.ofString "b" then some (.ref lb) else if y = Str.ofString "a" then some (.ref la) else none) ∧ n₂ = (I, it) :: (D, listOf vs.toArray c) :: (news ++ tl ++ tl2) ∧ Fresh ((I, it) :: (D, listOf vs.toArray c) :: (news ++ tl)) tl2) rfl (by assumption) (small_one (by omega) (by omega) (by omega) (by omega)) (by rw [rangeSize_nat]; omega) F2 N3 ?_ ?_ ?_
    · exact ⟨_, _, _, _, _, [], map_ext [Str.ofString "at", Str.ofString "spot", Str.ofString "top", Str.ofString "bottom", Str.ofString "one", Str.ofString "other", Str.ofString "found", Str.ofString "b", Str.ofString "a"] (by walk_at "ff") (by walk_at "fg"), by rw [List.append_nil], Fresh.nil⟩
    · rintro j tj m₂ n₂ h' tk' I2 it2 hj ⟨tn, td, u2', u5', u6', tl2, rfl, rfl, hfr2⟩ hit2 hoff2 F3 N4
      intro Rz hend
      clear F2 N2 N3
      obtain ⟨bz1, bz2⟩ := (mixedTo_bd hx hy i j).mono (m := 100000) (by omega)
      obtain ⟨bx1, bx2⟩ := hx ((0 : Int) + j).toNat
      obtain ⟨by1, by2⟩ := hy ((0 : Int) + i - (0 + j)).toNat
      have e1 : ((0 : Int) + j).toNat = j := by omega
      have e2 : ((0 : Int) + i - (0 + j)).toNat = i - j := by omega
      k_steps
      rename Fr _ _ _ _ => F7
      rename News _ _ _ _ => N7
      rw [times_eq, e1, e2] at F7
      exact hend _ _ _ _ F7 (news_tail N7) (by walk_at "offs") ⟨_, _, _, _, _, _, map_ext [Str.ofString "at", Str.ofString "spot", Str.ofString "top", Str.ofString "bottom", Str.ofString "one", Str.ofString "other", Str.ofString "found", Str.ofString "b", Str.ofString "a"] (by walk_at "ff") (by walk_at "fg"), congrArg (fun x => _ :: _ :: x) app2, by walk_at "frs"⟩
    · rintro m₂ n₂ h' tk' ⟨tn, td, u2', u5', u6', tl2, rfl, rfl, hfr2⟩ F3 N4
      clear F2 N2 N3
      k_steps
      rename News _ _ _ _ => N7
      (try simp only [List.push_toArray] at N7)
      rename _ < _ ∧ _ < _ ∧ AllLt _ (_ ++ _ ++ _) => l7
      refine hend _ _ _ _ (by assumption) (move_head N7) (off_consP (Ne.symm hID) (off_app (off_anti (X := news) hoff (by walk_at "subs")) (off_consP (Nat.ne_of_gt l7.1) (off_app (off_anti (X := tl) hoff (by walk_at "subs")) (off_fresh hfr2 (List.mem_cons_self ..)))))) ?_
      exact ⟨_, _, _, _, _, _, _, _, _, _, map_ext [Str.ofString "at", Str.ofString "spot", Str.ofString "top", Str.ofString "bottom", Str.ofString "one", Str.ofString "other", Str.ofString "found", Str.ofString "b", Str.ofString "a"] (by walk_at "ff") (by walk_at "fg"), rfl, Fresh.consr (fun q hq => Nat.ne_of_lt (ktn_ltOf l7.2.2 q (by walk_at "sub"))) (by walk_at "frs"), off_app (off_anti (X := news) hoffD (by walk_at "subs")) (off_consP (Nat.ne_of_gt l7.2.1) (off_app (off_anti (X := tl) hoffD (by walk_at "subs")) (off_fresh hfr2 (List.mem_cons_of_mem _ (List.mem_cons_self ..))))), hall.push (by walk_at "subs") (RatIn.new (List.mem_cons_self ..) rfl rfl)⟩
  · rintro m₁ n₁ h tk ⟨D, vs, c, u1, u2, u3, u4, u5, u6, tl, rfl, rfl, hfr, hoffD, hall⟩ F1 N1
    clear F2 N2
    k_steps
    exact hret _ ((D, listOf vs.toArray c) :: tl) _ _ (by assumption) (ktn_tl2 (by assumption)) (Fresh.consr (fun q hq => hoffD q (List.mem_append_left _ hq)) hfr)
      ⟨_, rfl, vs, c, List.mem_cons_self .., (hall.rats (timesS_length xs ys) (fun i hi => (timesS_getD hi).symm)).mono (by walk_at "subs")⟩
end
theorem words30 : True := by
  k_with_none
  trivial
-- A15
theorem under_eq (tp bt n : Int) (y : Rat) (hb : bt ≠ 0) : Rat.divInt (tp * y.den - n * y.num * bt) (bt * y.den) = Rat.divInt tp bt - (n : Rat) * y := by
  have e : (n : Rat) * y = Rat.divInt (n * y.num) y.den := by
    conv => lhs; rw [← Rat.num_divInt_den y, ← Rat.num_divInt_den (n : Rat)]
    rw [Rat.divInt_mul_divInt]
    simp
  rw [e, Rat.divInt_sub_divInt _ _ hb (den_ne y)]
theorem under_div (tp bt n : Int) (hn : n ≠ 0) : Rat.divInt tp (bt * n) = Rat.divInt tp bt / (n : Rat) := by
  have e : (n : Rat) = Rat.divInt n 1 := by
    conv => lhs; rw [← Rat.num_divInt_den (n : Rat)]
    simp
  rw [Rat.div_def, e, Rat.inv_divInt, Rat.divInt_mul_divInt, Int.mul_one]
def ratsOf (ns : List Int) : List Rat := ns.map (Int.cast : Int → Rat)
theorem ratsOf_getD (ns : List Int) (k : Nat) : (ratsOf ns).getD k 0 = ((ns.getD k 0 : Int) : Rat) := by
  simp only [ratsOf, List.getD, List.getElem?_map]
  cases ns[k]? <;> simp
theorem ratsOf_length (ns : List Int) : (ratsOf ns).length = ns.length := by simp [ratsOf]
def IntsIn (news : List (Addr × Obj)) (l : Addr) (ns : List Int) : Prop := ∃ vs c, (l, listOf vs.toArray c) ∈ news ∧ IntsAre vs ns
section
variable {prog : Program} {w : World} {A : Around} {E : Value → Shared → Prop} {s : Shared} {a L : Addr} {h₀ : Heap} {m : Str → Option Value} {news news₀ : List (Addr × Obj)} {ns : List Int} {value slice : Expr} {k : Int} {u : Tok} {Q : Value → Shared → Prop}
theorem IntsIn.list (N : News h₀ L s.heap news) (hx : IntsIn news₀ a ns) (hs : ∀ p ∈ news₀, p ∈ news) : ∃ vs, s.heap.IsList a vs.toArray ∧ IntsAre vs ns := by
  obtain ⟨vs, n, h1, h2⟩ := hx
  exact ⟨vs, ⟨_, (N _ (hs _ h1)).1, rfl, n, rfl⟩, h2⟩
theorem int_item (N : News h₀ L s.heap news) (hx : IntsIn news₀ a ns) (hs : ∀ p ∈ news₀, p ∈ news) (h0 : 0 ≤ k) (hk : k < ns.length) (h9 : k < 2 ^ 63) (h : ∀ t, Q (.int (ns.getD k.toNat 0) t) s)
    (he : subscripted slice false (.ref a) (.int k u) = operate [.ref a, .int k u] (getItem (.ref a) (.int k u)) := by with_unfolding_all rfl) :
    wpAny (model prog w) A (subscriptTail value slice (.ref a) (.int k u)) Q E s := by
  obtain ⟨vs, hl, hr⟩ := hx.list N hs
  have hlt : k.toNat < ns.length := by omega
  obtain ⟨t, ht⟩ := hr.get k.toNat ns[k.toNat] (List.getElem?_eq_getElem hlt)
  have e : ns.getD k.toNat 0 = ns[k.toNat] := by simp [List.getD, List.getElem?_eq_getElem hlt]
  rw [e] at h
  exact tail_any hl.typeIs slot_list_getitem.lookup (wpAny_getItem_list hl h0 h9 (by simpa using ht) (h t)) he
theorem int_len (N : News h₀ L s.heap news) (hx : IntsIn news₀ a ns) (hs : ∀ p ∈ news₀, p ∈ news) (hk : ns.length ≤ 100) (h : ∀ t tk, Q (.int ns.length t) { s with toks := tk }) :
    wpAny (model prog w) A (call (.builtin "len") [.ref a]) Q E s := by
  obtain ⟨vs, hl, hr⟩ := hx.list N hs
  exact kun_lenL hl (k := ns.length) (by simp [hr.length]) (by omega) (h _ _)
end
theorem words31 : True := by
  k_with_none
  k_with "my memD" => first | exact List.mem_cons_self .. | (refine List.mem_cons_of_mem _ ?_; walk_at "memD")
  k_with "my sub" => first | assumption | (refine List.Mem.tail _ ?_; walk_at "sub") | (refine List.mem_append.mpr (Or.inl ?_); walk_at "sub") | (refine List.mem_append.mpr (Or.inr ?_); walk_at "sub")
  k_with "my subs" => (intro pqz hpqz; first | walk_at "sub" | (simp only [List.mem_append, List.mem_cons] at hpqz ⊢; (repeat' (refine Or.elim hpqz (fun hpqz => ?_) (fun hpqz => ?_))) <;> simp only [hpqz, eq_self, true_or, or_true]))
  k_with "my use" => ( (case k1 => k_asm); (case k2 => k_asm); (case k3 => k_asm); (case k4 => k_asm); (case k5 => k_asm); (case kK => first | exact rfl | assumption); (case kd => ktr_room); (case ku => ktr_units))
  k_with "my pyIter ref" => (k_here; refine stop_intro ?_)
  k_with "my subscriptTail" => (k_here; (with_reducible show wpAny _ _ (subscriptTail _ _ (Value.ref _) (Value.int _ _)) _ _ _); k_dflt (refine' list_item ?k3 ?k4 ?k5 ?k7 ?k8 ?k9 ?_ ?k6; (case k4 => with_reducible assumption); (case k3 => k_asm); (case k5 => walk_at "subs"); (case k6 => with_unfolding_all rfl); (case k7 => omega); (case k8 => omega); (case k9 => omega); k_whole); intro b9qz hb9qz)
  k_with "my call builtin:len" => (k_here; (with_reducible show wpAny _ _ (call (Value.builtin "len") [Value.ref _]) _ _ _); k_dflt (refine' list_len ?k3 ?k4 ?k5 ?k7 ?_; (case k4 => with_reducible assumption); (case k3 => k_asm); (case k5 => walk_at "subs"); (case k7 => omega); k_whole); intro _ _)
  k_with "my rats" => first | with_reducible assumption | exact RatIn.mono (by with_reducible assumption) (by walk_at "subs") | exact r0_in | exact r1_in
  k_with "my compareOp NotEq ref ref" => (k_here; (with_reducible show wpAny _ _ (compareOp CmpOp.NotEq (Value.ref _) (Value.ref _)) _ _ _); k_dflt (refine' rat_ne ?k1 ?k2 ?k3 ?k4 ?k5 ?k6 ?k7 ?k8 ?_; (case k4 => with_reducible assumption); (case k6 => first | with_reducible assumption | exact r0_in (news := [])); (case k1 => k_asm); (case k2 => k_asm); (case k3 => k_asm); (case k5 => walk_at "subs"); (case k7 => first | exact List.forall_mem_nil _ | walk_at "subs"); (case k8 => exact units_room9 (by assumption) (by decide)); k_whole))
  k_with "my bd" => first | with_reducible assumption | exact Bd.zero | exact (by with_reducible assumption : Bds _ _) _ | exact Bd.mul (by walk_at "bd") (by walk_at "bd") | exact Bd.add (by walk_at "bd") (by walk_at "bd") | exact Bd.sub (by walk_at "bd") (by walk_at "bd")
  k_with "my bds" => exact Bd.mono (by walk_at "bd") (by omega)
  k_with "my call ref" => (k_here; (with_reducible show wpAny _ _ (call (Value.ref 64) [_, _]) _ _ _); k_dflt (refine' ctr_use (radd_ctr _ _ _ _) ?k1 ?k2 ?k3 ?k4 ?k5 ?kK ?kp ?kd ?ku ?_); walk_at "use"; (case kp => exact ⟨by walk_at "rats", by walk_at "rats", by walk_at "bds", by walk_at "bds"⟩); k_whole; intro r9qz tl9qz h9qz tk9qz F9qz N9qz fr9qz ho9qz; (simp only [List.cons_append, List.nil_append] at N9qz ho9qz); obtain ⟨a9qz, e9qz⟩ := RatIn.isRef ho9qz; subst e9qz; (try k_fold))
  k_with "my call ref" => (k_here; (with_reducible show wpAny _ _ (call (Value.ref 78) [_, _]) _ _ _); k_dflt (refine' ctr_use (rmul_ctr _ _ _ _) ?k1 ?k2 ?k3 ?k4 ?k5 ?kK ?kp ?kd ?ku ?_); walk_at "use"; (case kp => exact ⟨by walk_at "rats", by walk_at "rats", by walk_at "bds", by walk_at "bds"⟩); k_whole; intro r9qz tl9qz h9qz tk9qz F9qz N9qz fr9qz ho9qz; (simp only [List.cons_append, List.nil_append] at N9qz ho9qz); obtain ⟨a9qz, e9qz⟩ := RatIn.isRef ho9qz; subst e9qz; (try k_fold))
  k_with "my ff" => exact ff_n
  k_with "my ff" => (refine ff_c rfl ?_; walk_at "ff")
  k_with "my fg" => (intro yqz hyqz; (repeat' (first | (refine ifn_l (hyqz _ ?m9) ?_; (case m9 => walk_at "fm")) | (refine ifn_r (hyqz _ ?m9) ?_; (case m9 => walk_at "fm")) | fail)); rfl)
  k_with "my fm" => first | with_reducible exact List.mem_cons_self .. | (refine List.mem_cons_of_mem _ ?_; walk_at "fm")
  k_with "my frs" => first | assumption | ((repeat' (refine Fresh.both ?_ ?_)); all_goals (first | assumption | exact Fresh.nil | exact Fresh.anti (by assumption) (by walk_at "subs")))
  k_with "my offs" => first | assumption | ((repeat' (first | refine off_app ?_ ?_ | refine off_cons ?_ ?_)); all_goals (first | assumption | exact off_fresh (by assumption) (by walk_at "memD") | exact off_anti (by assumption) (by walk_at "subs") | exact off_head (by assumption) (by walk_at "memD") | exact Ne.symm (by assumption)))
  k_with "my enterC" => (refine' code_defC ?k1 ?k2 ?k3 ?k4 ?k5 ?kA ?kF ?kK ?k6 ?k7 ?k8 ?k9 ?kB ?kD ?_ ?c2 ?c3 ?c4; (case kA => exact rfl); (case kF => exact rfl); (case kK => assumption); (case k1 => k_asm); (case k2 => k_asm); (case k3 => k_asm); (case k4 => k_asm); (case k5 => k_asm); (case k6 => k_is); (case k7 => k_is); (case k8 => ktr_room); (case k9 => exact BindsTo.of_eq rfl); (case kB => exact rfl); (case kD => decide +kernel); (case c2 => exact rfl); (case c3 => exact rfl); (case c4 => exact rfl); k_whole; intro gpqz Lpqz hpqz tkpqz cellspqz FGpqz Fpqz Npqz Ypqz Bpqz Xpqz Tpqz l1qz; k_cells Ypqz; (try simp only [List.cons_append, List.nil_append] at Npqz); (try dsimp only); (try k_fold))
  k_with "my call ref" => (k_here; (with_reducible show wpAny _ _ (call (Value.ref 120) [_, _, _]) _ _ _); k_dflt (refine' ctr_use (mixed_ctr _ _ _ _ _ _) ?k1 ?k2 ?k3 ?k4 ?k5 ?kK ?kp ?kd ?ku ?_); walk_at "use"; (case kp => walk_at "pre120"); k_whole; intro r9qz tl9qz h9qz tk9qz F9qz N9qz fr9qz ho9qz; (simp only [List.cons_append, List.nil_append] at N9qz); obtain ⟨a9qz, e9qz⟩ := RatIn.isRef ho9qz; subst e9qz; (try k_fold))
  k_with "my call ref" => (k_here; (with_reducible show wpAny _ _ (call (Value.ref 113) [_]) _ _ _); k_dflt (refine' ctr_use (let_ctr _ _) ?k1 ?k2 ?k3 ?k4 ?k5 ?kK ?kp ?kd ?ku ?_); walk_at "use"; (case kp => exact ⟨by walk_at "rats", by assumption⟩); k_whole; intro r9qz tl9qz h9qz tk9qz F9qz N9qz fr9qz ho9qz; (simp only [List.cons_append, List.nil_append] at N9qz); subst ho9qz; (try k_fold))
  k_with "my lists" => first | with_reducible assumption | exact ListIn.mono (by with_reducible assumption) (by walk_at "subs")
  k_with "my pre120" => exact ⟨by walk_at "lists", by walk_at "lists", by omega, by omega, by omega, by omega, by assumption, by assumption⟩
  k_with "my call ref" => (k_here; (with_reducible show wpAny _ _ (call (Value.ref 71) [_, _]) _ _ _); k_dflt (refine' ctr_use (rsub_ctr _ _ _ _) ?k1 ?k2 ?k3 ?k4 ?k5 ?kK ?kp ?kd ?ku ?_); walk_at "use"; (case kp => exact ⟨by walk_at "rats", by walk_at "rats", by walk_at "bds", by walk_at "bds"⟩); k_whole; intro r9qz tl9qz h9qz tk9qz F9qz N9qz fr9qz ho9qz; (simp only [List.cons_append, List.nil_append] at N9qz); obtain ⟨a9qz, e9qz⟩ := RatIn.isRef ho9qz; subst e9qz; (try k_fold))
  k_with "my call ref" => (k_here; (with_reducible show wpAny _ _ (call (Value.ref 85) [_, _]) _ _ _); k_dflt (refine' ctr_use (rdiv_ctr _ _ _ _) ?k1 ?k2 ?k3 ?k4 ?k5 ?kK ?kp ?kd ?ku ?_); walk_at "use"; (case kp => exact ⟨by walk_at "rats", by walk_at "rats", by walk_at "bds", by walk_at "bds", by assumption⟩); k_whole; intro r9qz tl9qz h9qz tk9qz F9qz N9qz fr9qz ho9qz; (simp only [List.cons_append, List.nil_append] at N9qz); obtain ⟨a9qz, e9qz⟩ := RatIn.isRef ho9qz; subst e9qz; (try k_fold))
  k_with "my compareOp Eq ref ref" => (k_here; (with_reducible show wpAny _ _ (compareOp CmpOp.Eq (Value.ref _) (Value.ref _)) _ _ _); k_dflt (refine' rat_eq ?k1 ?k2 ?k3 ?k4 ?k5 ?k6 ?k7 ?k8 ?_; (case k4 => with_reducible assumption); (case k6 => first | with_reducible assumption | exact r0_in (news := [])); (case k1 => k_asm); (case k2 => k_asm); (case k3 => k_asm); (case k5 => walk_at "subs"); (case k7 => first | exact List.forall_mem_nil _ | walk_at "subs"); (case k8 => exact units_room9 (by assumption) (by decide)); k_whole))
  k_with "my call builtin:list.append" => (k_here; (with_reducible show wpAny _ _ (call (Value.builtin _) [Value.ref _, _]) _ _ _); k_dflt (refine' append_K ?k1 ?k2 ?k3 ?_ ?z; (case k1 => k_asm); (case k2 => k_asm); (case k3 => first | exact Upd.head (by walk_at "offs") | exact Upd.tail (by first | assumption | exact Ne.symm (by assumption)) (Upd.head (by walk_at "offs"))); (case z => assumption); k_whole); intro hpqz Fpqz Npqz; (simp only [List.push_toArray] at Npqz); (try k_sweep))
  k_with "my call ref" => (k_here; (with_reducible show wpAny _ _ (call (Value.ref 125) [_, _]) _ _ _); k_dflt (refine' ctr_use (smul_ctr _ _ _ _) ?k1 ?k2 ?k3 ?k4 ?k5 ?kK ?kp ?kd ?ku ?_); walk_at "use"; (case kp => exact ⟨by walk_at "lists", by walk_at "lists", by first | assumption | omega, by first | assumption | omega, by assumption, by assumption, by assumption⟩); k_whole; intro r9qz tl9qz h9qz tk9qz F9qz N9qz fr9qz ho9qz; (simp only [List.cons_append, List.nil_append] at N9qz); obtain ⟨l9qz, e9qz, ho9qz⟩ := ho9qz; subst e9qz; (try k_fold))
  k_with "my call ref" => (k_here; (with_reducible show wpAny _ _ (call (Value.ref 139) [_, Value.ref 49]) _ _ _); k_dflt (refine' ctr_use (need_begin_ctr _ _) ?k1 ?k2 ?k3 ?k4 ?k5 ?kK ?kp ?kd ?ku ?_); walk_at "use"; (case kp => exact ⟨by walk_at "lists", by omega, by omega, by assumption⟩); k_whole; intro r9qz tl9qz h9qz tk9qz F9qz N9qz fr9qz ho9qz; (try simp only [List.cons_append, List.nil_append] at N9qz); subst ho9qz; (try k_fold))
  k_with "my call ref" => (k_here; (with_reducible show wpAny _ _ (call (Value.ref 106) [_, _]) _ _ _); refine stop_intro ?_)
  k_with "my subscriptTail Name Slice ref ref" => (k_here; (with_reducible show wpAny _ _ (subscriptTail _ (PySem.Expr.Slice _ _ none _) (Value.ref _) (Value.ref _)) _ _ _); k_dflt (refine' list_slice ?sF ?sN ?sx ?ss ?sp ?sq ?sz ?_ ?su ?stt; (case sx => with_reducible assumption); (case sF => k_asm); (case sN => k_asm); (case ss => walk_at "subs"); (case sp => kmk_part); (case sq => kmk_part); (case su => with_unfolding_all rfl); (case stt => kmk_pure); (case sz => omega)); intro Dpqz hpqz wspqz Fpqz Npqz l1qz hwspqz; (have hws9qz := ListIn.ofHead (D := Dpqz) (n := 0) hwspqz); (try k_sweep))
  k_with "my setItem ref int" => (k_here; (with_reducible show wpAny _ _ (setItem (Value.ref _) (Value.int _ _) (Value.ref _)) _ _ _); refine stop_intro ?_)
  k_with "my rats" => exact RatIn.int (List.Mem.head _)
  k_with "my call ref" => (k_here; (with_reducible show wpAny _ _ (call (Value.ref 132) [_]) _ _ _); k_dflt (refine' ctr_use (sinverse_ctr _ _) ?k1 ?k2 ?k3 ?k4 ?k5 ?kK ?kp ?kd ?ku ?_); walk_at "use"; (case kp => exact ⟨by walk_at "lists", by omega, by omega, by assumption, by assumption, by assumption⟩); k_whole; intro r9qz tl9qz h9qz tk9qz F9qz N9qz fr9qz ho9qz; (simp only [List.cons_append, List.nil_append] at N9qz); obtain ⟨l9qz, e9qz, ho9qz⟩ := ho9qz; subst e9qz; (try k_fold))
  k_with "my binaryOp FloorDiv int int" => (k_here; (refine' floordiv_int ?kne ?_ ?kroom); (case kne => omega); (case kroom => exact Or.inr (PylongRoom.of (PySem.Heap.NoLimit.keeps (Top.nolimit (by assumption)) (Fr.keep (by assumption))) (depth_room (by assumption) (by decide)))); k_whole)
  k_with "my exec While Compare cons nil" => (k_here; refine stop_intro ?_)
  k_with "my subscriptTail" => (k_here; (with_reducible show wpAny _ _ (subscriptTail _ _ (Value.ref _) (Value.int 0 _)) _ _ _); k_dflt (refine' rat_item0 ?k1 ?k2 ?k3 ?k4 ?k5 ?_ ?k6; (case k4 => with_reducible assumption); (case k1 => k_asm); (case k2 => k_asm); (case k3 => k_asm); (case k5 => walk_at "subs"); (case k6 => with_unfolding_all rfl); k_whole); intro _)
  k_with "my subscriptTail" => (k_here; (with_reducible show wpAny _ _ (subscriptTail _ _ (Value.ref _) (Value.int 1 _)) _ _ _); k_dflt (refine' rat_item1 ?k1 ?k2 ?k3 ?k4 ?k5 ?_ ?k6; (case k4 => with_reducible assumption); (case k1 => k_asm); (case k2 => k_asm); (case k3 => k_asm); (case k5 => walk_at "subs"); (case k6 => with_unfolding_all rfl); k_whole); intro _)
  k_with "my unpackItems ref" => (k_here; (with_reducible show wpAny _ _ (unpackItems (Value.ref _) 2 none) _ _ _); k_dflt (refine' rat_unpack ?k1 ?k2 ?k3 ?k4 ?k5 ?k6 ?_; (case k4 => with_reducible assumption); (case k1 => k_asm); (case k2 => k_asm); (case k3 => k_asm); (case k5 => walk_at "subs"); (case k6 => exact rfl); k_whole); intro hpqz tpqz upqz Fpqz Npqz; (try k_sweep))
  k_with "my call ref" => (k_here; (with_reducible show wpAny _ _ (call (Value.ref 167) [_, _]) _ _ _); k_dflt (refine' ctr_use (lowest_ctr _ _ _ _) ?k1 ?k2 ?k3 ?k4 ?k5 ?kK ?kp ?kd ?ku ?_); walk_at "use"; (case kp => first | assumption | exact Int.mul_ne_zero (Int.mul_ne_zero (den_ne _) (den_ne _)) (den_ne _)); k_whole; intro r9qz tl9qz h9qz tk9qz F9qz N9qz fr9qz ho9qz; (simp only [List.cons_append, List.nil_append] at N9qz); obtain ⟨a9qz, e9qz⟩ := RatIn.isRef ho9qz; subst e9qz; (try k_fold))
  k_with "my assign Tuple" => (k_here; (with_reducible show wpAny _ _ (assign (Expr.Tuple _ _ _) _ (Value.ref _)) _ _ _); k_dflt (refine' rat_assign ?k1 ?k2 ?k3 ?k4 ?k5 ?k6 ?k7 ?k8 ?_; (case k4 => with_reducible assumption); (case k1 => k_asm); (case k2 => k_asm); (case k3 => k_asm); (case k5 => walk_at "subs"); (case k6 => exact rfl); (case k7 => exact rfl); (case k8 => exact rfl); k_whole); intro hpqz tpqz upqz Fpqz Npqz; (try k_sweep))
  k_with "my subscriptTail" => (k_here; (with_reducible show wpAny _ _ (subscriptTail _ _ (Value.ref _) (Value.int _ _)) _ _ _); k_dflt (refine' int_item ?k3 ?k4 ?k5 ?k7 ?k8 ?k9 ?_ ?k6; (case k4 => with_reducible assumption); (case k3 => k_asm); (case k5 => walk_at "subs"); (case k6 => with_unfolding_all rfl); (case k7 => omega); (case k8 => omega); (case k9 => omega); k_whole); intro _)
  k_with "my call builtin:len" => (k_here; (with_reducible show wpAny _ _ (call (Value.builtin "len") [Value.ref _]) _ _ _); k_dflt (refine' int_len ?k3 ?k4 ?k5 ?k7 ?_; (case k4 => with_reducible assumption); (case k3 => k_asm); (case k5 => walk_at "subs"); (case k7 => omega); k_whole); intro _ _)
  trivial
section
variable {w : World} {loose : List Str} {mean : ExcName → Option Value} {mg mb : Str → Option Value}
set_option maxHeartbeats 8000000 in
theorem under_ctr (lr : Addr) (ns : List Int) : Ctr w loose mean mg mb 108 181 [.ref lr]
    (fun news => IntsIn news lr ns ∧ 0 < ns.length ∧ ns.length ≤ 100 ∧ (∀ i, iBits (ns.getD i 0) ≤ 64) ∧ ns.getD 0 0 ≠ 0 ∧ ∀ k, k < ns.length → Small (invE (ratsOf ns) k))
    (fun tl r => ∃ l, r = .ref l ∧ ListIn (hd.heap_39 w.params) tl l (invL (ratsOf ns) ns.length)) := by
  w_top off
  unfold Ctr
  intro dp un gd cn cs fa ccd cl outer A₀ base h₀ L m news s Q E B F X N T hk hpre hdp hu hret
  obtain ⟨hrow, hl0, hl9, hrb, hr0, hsm⟩ := hpre
  refine wpAny_call ?_
  k_dflt ktr_enter
  rename Fr _ _ _ _ => F1
  replace F1 := fr_entry F1 [(Str.ofString "row", .ref lr)] rfl
  simp only [kstB] at F1
  clear F
  k_steps
  unfold Stop
  rename Fr _ _ _ _ => F2
  rename News _ _ _ _ => N2
  rename ∀ p ∈ news, p.1 < _ => l1
  refine for_range (n := ns.length) (fun i m₁ n₁ => ∃ D vs c u1 u2 u3 u4 u5 tl, m₁ = (fun y => if y = Str.ofString "at" then u1 else if y = Str.ofString "top" then u2 else if y = Str.ofString "bottom" then u3 else if y = Str.ofString "spot" then u4 else if y = Str.ofString "one" then u5 else if y = Str.ofString "found" then some (.ref D) else if y = Str.ofString "row" then some (.ref lr) else none) ∧ n₁ = (D, listOf vs.toArray c) :: (news ++ tl) ∧ Fresh news tl ∧ (∀ p ∈ news ++ tl, p.1 ≠ D) ∧ RatsUp (hd.heap_39 w.params) tl vs (invE (ratsOf ns)) i) rfl (by assumption) (small_one (by omega) (by omega) (by omega) (by omega)) (rangeSize_nat _ _) F2 N2 ?_ ?_ ?_
  · exact ⟨_, [], 0, none, none, none, none, none, [], map_ext [Str.ofString "at", Str.ofString "top", Str.ofString "bottom", Str.ofString "spot", Str.ofString "one", Str.ofString "found", Str.ofString "row"] (by walk_at "ff") (by walk_at "fg"), by rw [List.append_nil], Fresh.nil, by rw [List.append_nil]; exact fun p hp => Nat.ne_of_lt (l1 p hp), RatsUp.nil⟩
  · rintro i ti m₁ n₁ h tk I it hi ⟨D, vs, c, u1, u2, u3, u4, u5, tl, rfl, rfl, hfr, hoffD, hall⟩ hit hoff F1 N1
    intro Rz hend
    clear F2 N2
    have hID : @Ne Nat I D := fun e => hoff _ (List.mem_cons_self ..) e.symm
    have hvz : vs.toArray.size ≤ sizeLine := by rw [sizeLine_eq, List.size_toArray, hall.1]; omega
    have hlenf := invL_length (ratsOf ns) i
    have hD : ListIn (hd.heap_39 w.params) ((D, listOf vs.toArray c) :: tl) D (invL (ratsOf ns) i) := ⟨vs, c, List.mem_cons_self .., (hall.rats hlenf (fun j hj => (invL_getD _ i j hj).symm)).mono (by walk_at "subs")⟩
    have hbd : Bds 64 (invL (ratsOf ns) i) := getD_bd (fun j hj => by rw [hlenf] at hj; rw [invL_getD _ i j hj]; exact (hsm j (by omega)).bd) (by decide)
    k_steps
    · unfold Stop
      rename Fr _ _ _ _ => F2
      rename News _ _ _ _ => N2
      have N3 : News _ _ _ ((I, it) :: (D, listOf vs.toArray c) :: (news ++ tl)) := cb_drop N2 (by walk_at "subs")
      refine for_range (n := i) (fun j m₂ n₂ => ∃ tp bt tn td u4 u5 tl2, m₂ = (fun y => if y = Str.ofString "spot" then u4 else if y = Str.ofString "top" then some (.int tp tn) else if y = Str.ofString "bottom" then some (.int bt td) else if y = Str.ofString "one" then u5 else if y = Str.ofString "at" then some (.int (0 + i) ti) else if y = Str.ofString "found" then some (.ref D) else if y = Str.ofString "row" then some (.ref lr) else none) ∧ n₂ = (I, it) :: (D, listOf vs.toArray c) :: (news ++ tl ++ tl2) ∧ Fresh ((I, it) :: (D, listOf vs.toArray c) :: (news ++ tl)) tl2 ∧ bt ≠ 0 ∧ Rat.divInt tp bt = subTo (ratsOf ns) (invL (ratsOf ns) i) i (if i = 0 then 1 else 0) j ∧ iBits tp ≤ 200 + 65 * j ∧ iBits bt ≤ 1 + 64 * j) rfl (by assumption) (small_one (by omega) (by omega) (by omega) (by omega)) (by rw [rangeSize_nat]; omega) F2 N3 ?_ ?_ ?_
      · exact ⟨_, _, _, _, _, _, [], map_ext [Str.ofString "at", Str.ofString "top", Str.ofString "bottom", Str.ofString "spot", Str.ofString "one", Str.ofString "found", Str.ofString "row"] (by walk_at "ff") (by walk_at "fg"), by rw [List.append_nil], Fresh.nil, by decide, by rw [if_pos (by omega), subTo]; decide, Nat.le_trans (show _ ≤ 1 by decide) (by omega), Nat.le_trans (show _ ≤ 1 by decide) (by omega)⟩
      · rintro j tj m₂ n₂ h' tk' I2 it2 hj
        exact absurd hj (by omega)
      · rintro m₂ n₂ h' tk' ⟨tp, bt, tn, td, u4', u5', tl2, rfl, rfl, hfr2, hb0, hval, hbt, hbb⟩ F3 N4
        clear F2 N2 N3
        have hbt' : iBits tp ≤ 100000 := by omega
        have hbb' : iBits bt ≤ 100000 := by omega
        have by1 := hrb (Int.toNat 0)
        have hne : bt * ns.getD (Int.toNat 0) 0 ≠ 0 := Int.mul_ne_zero hb0 hr0
        k_steps
        rename News _ _ _ _ => N7
        (try simp only [List.push_toArray] at N7)
        rename RatIn _ _ _ (Rat.divInt _ _) => ho
        rw [show Int.toNat 0 = 0 from rfl, under_div _ _ _ hr0, hval, ← ratsOf_getD] at ho
        exact hend _ _ _ _ (by assumption) (by assumption) (by walk_at "offs") ⟨_, _, _, _, _, _, _, _, _, map_ext [Str.ofString "at", Str.ofString "top", Str.ofString "bottom", Str.ofString "spot", Str.ofString "one", Str.ofString "found", Str.ofString "row"] (by walk_at "ff") (by walk_at "fg"), congrArg (fun x => _ :: x) app3, by walk_at "frs", by walk_at "offs", hall.push (by walk_at "subs") ((show RatIn _ _ _ (invE (ratsOf ns) i) from ho).mono (by walk_at "subs"))⟩
    · unfold Stop
      rename Fr _ _ _ _ => F2
      rename News _ _ _ _ => N2
      have N3 : News _ _ _ ((I, it) :: (D, listOf vs.toArray c) :: (news ++ tl)) := cb_drop N2 (by walk_at "subs")
      refine for_range (n := i) (fun j m₂ n₂ => ∃ tp bt tn td u4 u5 tl2, m₂ = (fun y => if y = Str.ofString "spot" then u4 else if y = Str.ofString "top" then some (.int tp tn) else if y = Str.ofString "bottom" then some (.int bt td) else if y = Str.ofString "one" then u5 else if y = Str.ofString "at" then some (.int (0 + i) ti) else if y = Str.ofString "found" then some (.ref D) else if y = Str.ofString "row" then some (.ref lr) else none) ∧ n₂ = (I, it) :: (D, listOf vs.toArray c) :: (news ++ tl ++ tl2) ∧ Fresh ((I, it) :: (D, listOf vs.toArray c) :: (news ++ tl)) tl2 ∧ bt ≠ 0 ∧ Rat.divInt tp bt = subTo (ratsOf ns) (invL (ratsOf ns) i) i (if i = 0 then 1 else 0) j ∧ iBits tp ≤ 200 + 65 * j ∧ iBits bt ≤ 1 + 64 * j) rfl (by assumption) (small_one (by omega) (by omega) (by omega) (by omega)) (by rw [rangeSize_nat]; omega) F2 N3 ?_ ?_ ?_
      · exact ⟨_, _, _, _, _, _, [], map_ext [Str.ofString "at", Str.ofString "top", Str.ofString "bottom", Str.ofString "spot", Str.ofString "one", Str.ofString "found", Str.ofString "row"] (by walk_at "ff") (by walk_at "fg"), by rw [List.append_nil], Fresh.nil, by decide, by rw [if_neg (by omega), subTo]; decide, Nat.le_trans (show _ ≤ 1 by decide) (by omega), Nat.le_trans (show _ ≤ 1 by decide) (by omega)⟩
      · rintro j tj m₂ n₂ h' tk' I2 it2 hj ⟨tp, bt, tn, td, u4', u5', tl2, rfl, rfl, hfr2, hb0, hval, hbt, hbb⟩ hit2 hoff2 F3 N4
        intro Rz hend
        clear F2 N2 N3
        have hbt' : iBits tp ≤ 100000 := by omega
        have hbb' : iBits bt ≤ 100000 := by omega
        obtain ⟨bx1, bx2⟩ := hbd ((0 : Int) + i - (1 + j)).toNat
        have by1 := hrb ((1 : Int) + j).toNat
        have e1 : ((1 : Int) + j).toNat = j + 1 := by omega
        have e2 : ((0 : Int) + i - (1 + j)).toNat = i - (j + 1) := by omega
        k_steps
        rename Fr _ _ _ _ => F7
        rename News _ _ _ _ => N7
        exact hend _ _ _ _ F7 (news_tail N7) (by walk_at "offs") ⟨_, _, _, _, _, _, _, map_ext [Str.ofString "at", Str.ofString "top", Str.ofString "bottom", Str.ofString "spot", Str.ofString "one", Str.ofString "found", Str.ofString "row"] (by walk_at "ff") (by walk_at "fg"), rfl, by walk_at "frs", Int.mul_ne_zero hb0 (den_ne _), by rw [under_eq _ _ _ _ hb0, hval, subTo, ratsOf_getD, e1, e2], Nat.le_trans (bits_sub (bits_mul hbt bx2) (bits_mul (bits_mul by1 bx1) hbb)) (by omega), Nat.le_trans (bits_mul hbb bx2) (by omega)⟩
      · rintro m₂ n₂ h' tk' ⟨tp, bt, tn, td, u4', u5', tl2, rfl, rfl, hfr2, hb0, hval, hbt, hbb⟩ F3 N4
        clear F2 N2 N3
        have hbt' : iBits tp ≤ 100000 := by omega
        have hbb' : iBits bt ≤ 100000 := by omega
        have by1 := hrb (Int.toNat 0)
        have hne : bt * ns.getD (Int.toNat 0) 0 ≠ 0 := Int.mul_ne_zero hb0 hr0
        k_steps
        rename News _ _ _ _ => N7
        (try simp only [List.push_toArray] at N7)
        rename RatIn _ _ _ (Rat.divInt _ _) => ho
        rw [show Int.toNat 0 = 0 from rfl, under_div _ _ _ hr0, hval, ← ratsOf_getD] at ho
        exact hend _ _ _ _ (by assumption) (by assumption) (by walk_at "offs") ⟨_, _, _, _, _, _, _, _, _, map_ext [Str.ofString "at", Str.ofString "top", Str.ofString "bottom", Str.ofString "spot", Str.ofString "one", Str.ofString "found", Str.ofString "row"] (by walk_at "ff") (by walk_at "fg"), congrArg (fun x => _ :: x) app3, by walk_at "frs", by walk_at "offs", hall.push (by walk_at "subs") ((show RatIn _ _ _ (invE (ratsOf ns) i) from ho).mono (by walk_at "subs"))⟩
  · rintro m₁ n₁ h tk ⟨D, vs, c, u1, u2, u3, u4, u5, tl, rfl, rfl, hfr, hoffD, hall⟩ F1 N1
    clear F2 N2
    k_steps
    exact hret _ ((D, listOf vs.toArray c) :: tl) _ _ (by assumption) (ktn_tl2 (by assumption)) (Fresh.consr (fun q hq => hoffD q (List.mem_append_left _ hq)) hfr)
      ⟨_, rfl, vs, c, List.mem_cons_self .., (hall.rats (invL_length _ _) (fun i hi => (invL_getD _ _ i hi).symm)).mono (by walk_at "subs")⟩
end
theorem words32 : True := by
  k_with_none
  trivial
-- A16
theorem words33 : True := by
  k_with_none
  k_with "my memD" => first | exact List.mem_cons_self .. | (refine List.mem_cons_of_mem _ ?_; walk_at "memD")
  k_with "my sub" => first | assumption | (refine List.Mem.tail _ ?_; walk_at "sub") | (refine List.mem_append.mpr (Or.inl ?_); walk_at "sub") | (refine List.mem_append.mpr (Or.inr ?_); walk_at "sub")
  k_with "my subs" => (intro pqz hpqz; first | walk_at "sub" | (simp only [List.mem_append, List.mem_cons] at hpqz ⊢; (repeat' (refine Or.elim hpqz (fun hpqz => ?_) (fun hpqz => ?_))) <;> simp only [hpqz, eq_self, true_or, or_true]))
  k_with "my use" => ( (case k1 => k_asm); (case k2 => k_asm); (case k3 => k_asm); (case k4 => k_asm); (case k5 => k_asm); (case kK => first | exact rfl | assumption); (case kd => ktr_room); (case ku => ktr_units))
  k_with "my pyIter ref" => (k_here; refine stop_intro ?_)
  k_with "my subscriptTail" => (k_here; (with_reducible show wpAny _ _ (subscriptTail _ _ (Value.ref _) (Value.int _ _)) _ _ _); k_dflt (refine' list_item ?k3 ?k4 ?k5 ?k7 ?k8 ?k9 ?_ ?k6; (case k4 => with_reducible assumption); (case k3 => k_asm); (case k5 => walk_at "subs"); (case k6 => with_unfolding_all rfl); (case k7 => omega); (case k8 => omega); (case k9 => omega); k_whole); intro b9qz hb9qz)
  k_with "my call builtin:len" => (k_here; (with_reducible show wpAny _ _ (call (Value.builtin "len") [Value.ref _]) _ _ _); k_dflt (refine' list_len ?k3 ?k4 ?k5 ?k7 ?_; (case k4 => with_reducible assumption); (case k3 => k_asm); (case k5 => walk_at "subs"); (case k7 => omega); k_whole); intro _ _)
  k_with "my rats" => first | with_reducible assumption | exact RatIn.mono (by with_reducible assumption) (by walk_at "subs") | exact r0_in | exact r1_in
  k_with "my compareOp NotEq ref ref" => (k_here; (with_reducible show wpAny _ _ (compareOp CmpOp.NotEq (Value.ref _) (Value.ref _)) _ _ _); k_dflt (refine' rat_ne ?k1 ?k2 ?k3 ?k4 ?k5 ?k6 ?k7 ?k8 ?_; (case k4 => with_reducible assumption); (case k6 => first | with_reducible assumption | exact r0_in (news := [])); (case k1 => k_asm); (case k2 => k_asm); (case k3 => k_asm); (case k5 => walk_at "subs"); (case k7 => first | exact List.forall_mem_nil _ | walk_at "subs"); (case k8 => exact units_room9 (by assumption) (by decide)); k_whole))
  k_with "my bd" => first | with_reducible assumption | exact Bd.zero | exact (by with_reducible assumption : Bds _ _) _ | exact Bd.mul (by walk_at "bd") (by walk_at "bd") | exact Bd.add (by walk_at "bd") (by walk_at "bd") | exact Bd.sub (by walk_at "bd") (by walk_at "bd")
  k_with "my bds" => exact Bd.mono (by walk_at "bd") (by omega)
  k_with "my call ref" => (k_here; (with_reducible show wpAny _ _ (call (Value.ref 64) [_, _]) _ _ _); k_dflt (refine' ctr_use (radd_ctr _ _ _ _) ?k1 ?k2 ?k3 ?k4 ?k5 ?kK ?kp ?kd ?ku ?_); walk_at "use"; (case kp => exact ⟨by walk_at "rats", by walk_at "rats", by walk_at "bds", by walk_at "bds"⟩); k_whole; intro r9qz tl9qz h9qz tk9qz F9qz N9qz fr9qz ho9qz; (simp only [List.cons_append, List.nil_append] at N9qz ho9qz); obtain ⟨a9qz, e9qz⟩ := RatIn.isRef ho9qz; subst e9qz; (try k_fold))
  k_with "my call ref" => (k_here; (with_reducible show wpAny _ _ (call (Value.ref 78) [_, _]) _ _ _); k_dflt (refine' ctr_use (rmul_ctr _ _ _ _) ?k1 ?k2 ?k3 ?k4 ?k5 ?kK ?kp ?kd ?ku ?_); walk_at "use"; (case kp => exact ⟨by walk_at "rats", by walk_at "rats", by walk_at "bds", by walk_at "bds"⟩); k_whole; intro r9qz tl9qz h9qz tk9qz F9qz N9qz fr9qz ho9qz; (simp only [List.cons_append, List.nil_append] at N9qz ho9qz); obtain ⟨a9qz, e9qz⟩ := RatIn.isRef ho9qz; subst e9qz; (try k_fold))
  k_with "my ff" => exact ff_n
  k_with "my ff" => (refine ff_c rfl ?_; walk_at "ff")
  k_with "my fg" => (intro yqz hyqz; (repeat' (first | (refine ifn_l (hyqz _ ?m9) ?_; (case m9 => walk_at "fm")) | (refine ifn_r (hyqz _ ?m9) ?_; (case m9 => walk_at "fm")) | fail)); rfl)
  k_with "my fm" => first | with_reducible exact List.mem_cons_self .. | (refine List.mem_cons_of_mem _ ?_; walk_at "fm")
  k_with "my frs" => first | assumption | ((repeat' (refine Fresh.both ?_ ?_)); all_goals (first | assumption | exact Fresh.nil | exact Fresh.anti (by assumption) (by walk_at "subs")))
  k_with "my offs" => first | assumption | ((repeat' (first | refine off_app ?_ ?_ | refine off_cons ?_ ?_)); all_goals (first | assumption | exact off_fresh (by assumption) (by walk_at "memD") | exact off_anti (by assumption) (by walk_at "subs") | exact off_head (by assumption) (by walk_at "memD") | exact Ne.symm (by assumption)))
  k_with "my enterC" => (refine' code_defC ?k1 ?k2 ?k3 ?k4 ?k5 ?kA ?kF ?kK ?k6 ?k7 ?k8 ?k9 ?kB ?kD ?_ ?c2 ?c3 ?c4; (case kA => exact rfl); (case kF => exact rfl); (case kK => assumption); (case k1 => k_asm); (case k2 => k_asm); (case k3 => k_asm); (case k4 => k_asm); (case k5 => k_asm); (case k6 => k_is); (case k7 => k_is); (case k8 => ktr_room); (case k9 => exact BindsTo.of_eq rfl); (case kB => exact rfl); (case kD => decide +kernel); (case c2 => exact rfl); (case c3 => exact rfl); (case c4 => exact rfl); k_whole; intro gpqz Lpqz hpqz tkpqz cellspqz FGpqz Fpqz Npqz Ypqz Bpqz Xpqz Tpqz l1qz; k_cells Ypqz; (try simp only [List.cons_append, List.nil_append] at Npqz); (try dsimp only); (try k_fold))
  k_with "my call ref" => (k_here; (with_reducible show wpAny _ _ (call (Value.ref 120) [_, _, _]) _ _ _); k_dflt (refine' ctr_use (mixed_ctr _ _ _ _ _ _) ?k1 ?k2 ?k3 ?k4 ?k5 ?kK ?kp ?kd ?ku ?_); walk_at "use"; (case kp => walk_at "pre120"); k_whole; intro r9qz tl9qz h9qz tk9qz F9qz N9qz fr9qz ho9qz; (simp only [List.cons_append, List.nil_append] at N9qz); obtain ⟨a9qz, e9qz⟩ := RatIn.isRef ho9qz; subst e9qz; (try k_fold))
  k_with "my call ref" => (k_here; (with_reducible show wpAny _ _ (call (Value.ref 113) [_]) _ _ _); k_dflt (refine' ctr_use (let_ctr _ _) ?k1 ?k2 ?k3 ?k4 ?k5 ?kK ?kp ?kd ?ku ?_); walk_at "use"; (case kp => exact ⟨by walk_at "rats", by assumption⟩); k_whole; intro r9qz tl9qz h9qz tk9qz F9qz N9qz fr9qz ho9qz; (simp only [List.cons_append, List.nil_append] at N9qz); subst ho9qz; (try k_fold))
  k_with "my lists" => first | with_reducible assumption | exact ListIn.mono (by with_reducible assumption) (by walk_at "subs")
  k_with "my pre120" => exact ⟨by walk_at "lists", by walk_at "lists", by omega, by omega, by omega, by omega, by assumption, by assumption⟩
  k_with "my call ref" => (k_here; (with_reducible show wpAny _ _ (call (Value.ref 71) [_, _]) _ _ _); k_dflt (refine' ctr_use (rsub_ctr _ _ _ _) ?k1 ?k2 ?k3 ?k4 ?k5 ?kK ?kp ?kd ?ku ?_); walk_at "use"; (case kp => exact ⟨by walk_at "rats", by walk_at "rats", by walk_at "bds", by walk_at "bds"⟩); k_whole; intro r9qz tl9qz h9qz tk9qz F9qz N9qz fr9qz ho9qz; (simp only [List.cons_append, List.nil_append] at N9qz); obtain ⟨a9qz, e9qz⟩ := RatIn.isRef ho9qz; subst e9qz; (try k_fold))
  k_with "my call ref" => (k_here; (with_reducible show wpAny _ _ (call (Value.ref 85) [_, _]) _ _ _); k_dflt (refine' ctr_use (rdiv_ctr _ _ _ _) ?k1 ?k2 ?k3 ?k4 ?k5 ?kK ?kp ?kd ?ku ?_); walk_at "use"; (case kp => exact ⟨by walk_at "rats", by walk_at "rats", by walk_at "bds", by walk_at "bds", by assumption⟩); k_whole; intro r9qz tl9qz h9qz tk9qz F9qz N9qz fr9qz ho9qz; (simp only [List.cons_append, List.nil_append] at N9qz); obtain ⟨a9qz, e9qz⟩ := RatIn.isRef ho9qz; subst e9qz; (try k_fold))
  k_with "my compareOp Eq ref ref" => (k_here; (with_reducible show wpAny _ _ (compareOp CmpOp.Eq (Value.ref _) (Value.ref _)) _ _ _); k_dflt (refine' rat_eq ?k1 ?k2 ?k3 ?k4 ?k5 ?k6 ?k7 ?k8 ?_; (case k4 => with_reducible assumption); (case k6 => first | with_reducible assumption | exact r0_in (news := [])); (case k1 => k_asm); (case k2 => k_asm); (case k3 => k_asm); (case k5 => walk_at "subs"); (case k7 => first | exact List.forall_mem_nil _ | walk_at "subs"); (case k8 => exact units_room9 (by assumption) (by decide)); k_whole))
  k_with "my call builtin:list.append" => (k_here; (with_reducible show wpAny _ _ (call (Value.builtin _) [Value.ref _, _]) _ _ _); k_dflt (refine' append_K ?k1 ?k2 ?k3 ?_ ?z; (case k1 => k_asm); (case k2 => k_asm); (case k3 => first | exact Upd.head (by walk_at "offs") | exact Upd.tail (by first | assumption | exact Ne.symm (by assumption)) (Upd.head (by walk_at "offs"))); (case z => assumption); k_whole); intro hpqz Fpqz Npqz; (simp only [List.push_toArray] at Npqz); (try k_sweep))
  k_with "my call ref" => (k_here; (with_reducible show wpAny _ _ (call (Value.ref 125) [_, _]) _ _ _); k_dflt (refine' ctr_use (smul_ctr _ _ _ _) ?k1 ?k2 ?k3 ?k4 ?k5 ?kK ?kp ?kd ?ku ?_); walk_at "use"; (case kp => exact ⟨by walk_at "lists", by walk_at "lists", by first | assumption | omega, by first | assumption | omega, by assumption, by assumption, by assumption⟩); k_whole; intro r9qz tl9qz h9qz tk9qz F9qz N9qz fr9qz ho9qz; (simp only [List.cons_append, List.nil_append] at N9qz); obtain ⟨l9qz, e9qz, ho9qz⟩ := ho9qz; subst e9qz; (try k_fold))
  k_with "my call ref" => (k_here; (with_reducible show wpAny _ _ (call (Value.ref 139) [_, Value.ref 49]) _ _ _); k_dflt (refine' ctr_use (need_begin_ctr _ _) ?k1 ?k2 ?k3 ?k4 ?k5 ?kK ?kp ?kd ?ku ?_); walk_at "use"; (case kp => exact ⟨by walk_at "lists", by omega, by omega, by assumption⟩); k_whole; intro r9qz tl9qz h9qz tk9qz F9qz N9qz fr9qz ho9qz; (try simp only [List.cons_append, List.nil_append] at N9qz); subst ho9qz; (try k_fold))
  k_with "my call ref" => (k_here; (with_reducible show wpAny _ _ (call (Value.ref 106) [_, _]) _ _ _); refine stop_intro ?_)
  k_with "my subscriptTail Name Slice ref ref" => (k_here; (with_reducible show wpAny _ _ (subscriptTail _ (PySem.Expr.Slice _ _ none _) (Value.ref _) (Value.ref _)) _ _ _); k_dflt (refine' list_slice ?sF ?sN ?sx ?ss ?sp ?sq ?sz ?_ ?su ?stt; (case sx => with_reducible assumption); (case sF => k_asm); (case sN => k_asm); (case ss => walk_at "subs"); (case sp => kmk_part); (case sq => kmk_part); (case su => with_unfolding_all rfl); (case stt => kmk_pure); (case sz => omega)); intro Dpqz hpqz wspqz Fpqz Npqz l1qz hwspqz; (have hws9qz := ListIn.ofHead (D := Dpqz) (n := 0) hwspqz); (try k_sweep))
  k_with "my setItem ref int" => (k_here; (with_reducible show wpAny _ _ (setItem (Value.ref _) (Value.int _ _) (Value.ref _)) _ _ _); refine stop_intro ?_)
  k_with "my rats" => exact RatIn.int (List.Mem.head _)
  k_with "my call ref" => (k_here; (with_reducible show wpAny _ _ (call (Value.ref 132) [_]) _ _ _); k_dflt (refine' ctr_use (sinverse_ctr _ _) ?k1 ?k2 ?k3 ?k4 ?k5 ?kK ?kp ?kd ?ku ?_); walk_at "use"; (case kp => exact ⟨by walk_at "lists", by omega, by omega, by assumption, by assumption, by assumption⟩); k_whole; intro r9qz tl9qz h9qz tk9qz F9qz N9qz fr9qz ho9qz; (simp only [List.cons_append, List.nil_append] at N9qz); obtain ⟨l9qz, e9qz, ho9qz⟩ := ho9qz; subst e9qz; (try k_fold))
  k_with "my binaryOp FloorDiv int int" => (k_here; (refine' floordiv_int ?kne ?_ ?kroom); (case kne => omega); (case kroom => exact Or.inr (PylongRoom.of (PySem.Heap.NoLimit.keeps (Top.nolimit (by assumption)) (Fr.keep (by assumption))) (depth_room (by assumption) (by decide)))); k_whole)
  k_with "my exec While Compare cons nil" => (k_here; refine stop_intro ?_)
  k_with "my subscriptTail" => (k_here; (with_reducible show wpAny _ _ (subscriptTail _ _ (Value.ref _) (Value.int 0 _)) _ _ _); k_dflt (refine' rat_item0 ?k1 ?k2 ?k3 ?k4 ?k5 ?_ ?k6; (case k4 => with_reducible assumption); (case k1 => k_asm); (case k2 => k_asm); (case k3 => k_asm); (case k5 => walk_at "subs"); (case k6 => with_unfolding_all rfl); k_whole); intro _)
  k_with "my subscriptTail" => (k_here; (with_reducible show wpAny _ _ (subscriptTail _ _ (Value.ref _) (Value.int 1 _)) _ _ _); k_dflt (refine' rat_item1 ?k1 ?k2 ?k3 ?k4 ?k5 ?_ ?k6; (case k4 => with_reducible assumption); (case k1 => k_asm); (case k2 => k_asm); (case k3 => k_asm); (case k5 => walk_at "subs"); (case k6 => with_unfolding_all rfl); k_whole); intro _)
  k_with "my unpackItems ref" => (k_here; (with_reducible show wpAny _ _ (unpackItems (Value.ref _) 2 none) _ _ _); k_dflt (refine' rat_unpack ?k1 ?k2 ?k3 ?k4 ?k5 ?k6 ?_; (case k4 => with_reducible assumption); (case k1 => k_asm); (case k2 => k_asm); (case k3 => k_asm); (case k5 => walk_at "subs"); (case k6 => exact rfl); k_whole); intro hpqz tpqz upqz Fpqz Npqz; (try k_sweep))
  k_with "my call ref" => (k_here; (with_reducible show wpAny _ _ (call (Value.ref 167) [_, _]) _ _ _); k_dflt (refine' ctr_use (lowest_ctr _ _ _ _) ?k1 ?k2 ?k3 ?k4 ?k5 ?kK ?kp ?kd ?ku ?_); walk_at "use"; (case kp => first | assumption | exact Int.mul_ne_zero (Int.mul_ne_zero (den_ne _) (den_ne _)) (den_ne _)); k_whole; intro r9qz tl9qz h9qz tk9qz F9qz N9qz fr9qz ho9qz; (simp only [List.cons_append, List.nil_append] at N9qz); obtain ⟨a9qz, e9qz⟩ := RatIn.isRef ho9qz; subst e9qz; (try k_fold))
  k_with "my assign Tuple" => (k_here; (with_reducible show wpAny _ _ (assign (Expr.Tuple _ _ _) _ (Value.ref _)) _ _ _); k_dflt (refine' rat_assign ?k1 ?k2 ?k3 ?k4 ?k5 ?k6 ?k7 ?k8 ?_; (case k4 => with_reducible assumption); (case k1 => k_asm); (case k2 => k_asm); (case k3 => k_asm); (case k5 => walk_at "subs"); (case k6 => exact rfl); (case k7 => exact rfl); (case k8 => exact rfl); k_whole); intro hpqz tpqz upqz Fpqz Npqz; (try k_sweep))
  k_with "my subscriptTail" => (k_here; (with_reducible show wpAny _ _ (subscriptTail _ _ (Value.ref _) (Value.int _ _)) _ _ _); k_dflt (refine' int_item ?k3 ?k4 ?k5 ?k7 ?k8 ?k9 ?_ ?k6; (case k4 => with_reducible assumption); (case k3 => k_asm); (case k5 => walk_at "subs"); (case k6 => with_unfolding_all rfl); (case k7 => omega); (case k8 => omega); (case k9 => omega); k_whole); intro _)
  k_with "my call builtin:len" => (k_here; (with_reducible show wpAny _ _ (call (Value.builtin "len") [Value.ref _]) _ _ _); k_dflt (refine' int_len ?k3 ?k4 ?k5 ?k7 ?_; (case k4 => with_reducible assumption); (case k3 => k_asm); (case k5 => walk_at "subs"); (case k7 => omega); k_whole); intro _ _)
  trivial
theorem pool_back {h₀ h : Heap} {L : Addr} {q : Addr × Obj} {A B : List (Addr × Obj)} (N : News h₀ L h (q :: (A ++ B))) : News h₀ L h (A ++ q :: B) := cb_drop N fun p hp => by
  simp only [List.mem_cons, List.mem_append] at hp ⊢
  grind
theorem fmod_ge {a n : Int} (hn : 0 < n) : 0 ≤ a.fmod n := by
  rw [Int.fmod_eq_emod_of_nonneg _ (by omega)]
  exact Int.emod_nonneg a (by omega)
theorem fmod_lt {a n : Int} (hn : 0 < n) : a.fmod n < n := by
  rw [Int.fmod_eq_emod_of_nonneg _ (by omega)]
  exact Int.emod_lt_of_pos a hn
section
variable {w : World} {loose : List Str} {mean : ExcName → Option Value} {mg mb : Str → Option Value}
set_option maxHeartbeats 8000000 in
theorem draw_ctr {P C : Addr} {xs : List Int} {k many : Int} {u tm : Tok} (pre : List (Addr × Obj)) {post : List (Addr × Obj)}
    {dp un : Nat} {gd : Option (List Code)} {cn : Str} {cs : Scope} {fa : Addr} {ccd : Value} {cl : List (Str × Addr)} {outer : List Env} {A₀ : Around} {base h₀ : Heap} {L : Addr} {m : Str → Option Value} {s : Shared} {Q E : Value → Shared → Prop}
    (B : Below A₀ base outer h₀) (F : Fr h₀ L s.heap m) (X : (hd.heap_39 w.params).In h₀) (N₁ : News h₀ L s.heap (pre ++ (P, listOf [.ref C, .int k u].toArray 0) :: post)) (T : Top hd.view_39 loose mean mg mb h₀) (hk : cs.kind = .function)
    (hC : IntsIn (pre ++ post) C xs) (hoff : ∀ p ∈ pre ++ post, p.1 ≠ P) (hl : xs.length ≤ 100) (hk0 : 0 ≤ k) (hk9 : k < 1000) (hm0 : 0 < many) (hm9 : many < 100) (hdp : dp + 103 < recursionLimit) (hu : un + 8 * 103 < cLine)
    (hret : ∀ (r : Int) t u' h' tk', Fr h₀ L h' m → News h₀ L h' (pre ++ (P, listOf [.ref C, .int (k + 1) u'].toArray 0) :: post) → 0 ≤ r → r < many → Q (.int r t) { s with heap := h', toks := tk' }) :
    wpAny (model PySem.Challenge.pw_sa0082_01 w) (ktrTop dp un gd cn cs L fa ccd cl outer) (call (.ref 160) [.ref P, .int many tm]) Q E s := by
  w_top off
  have N : News h₀ L s.heap ((P, listOf [.ref C, .int k u].toArray 0) :: (pre ++ post)) := cb_drop N₁ fun p hp => by
    simp only [List.mem_cons, List.mem_append] at hp ⊢
    grind
  clear N₁
  generalize hrest : pre ++ post = rest at *
  refine wpAny_call ?_
  k_dflt ktr_enter
  rename Fr _ _ _ _ => F1
  replace F1 := fr_entry F1 [(Str.ofString "many", .int many tm), (Str.ofString "pool", .ref P)] rfl
  simp only [kstB] at F1
  clear F
  k_steps
  · rename News h₀ L _ _ => N9
    rename Fr h₀ L _ m => F9
    exact hret _ _ _ _ _ F9 (pool_back (hrest ▸ N9)) (fmod_ge hm0) (fmod_lt hm0)
  · rename News h₀ L _ _ => N9
    rename Fr h₀ L _ m => F9
    exact hret _ _ _ _ _ F9 (pool_back (hrest ▸ N9)) (fmod_ge hm0) (fmod_lt hm0)
end
theorem toN {r n : Int} (h1 : r < n) (h0 : 0 ≤ r) : ∃ q : Nat, r = q ∧ (q : Int) < n := ⟨r.toNat, by omega, by omega⟩
section
open LCg
variable {prog : Program} {w : World} {A : Around} {s : Shared} {h₀ : Heap} {L : Addr} {m : Str → Option Value} {env : Env}
def poolAt (pre : List (Addr × Obj)) (P Cc : Addr) (k : Int) (u : Tok) (post : List (Addr × Obj)) : List (Addr × Obj) := pre ++ (P, listOf [.ref Cc, .int k u].toArray 0) :: post
theorem poolAt_off {pre : List (Addr × Obj)} {P Cc : Addr} {k k' : Int} {u u' : Tok} {post : List (Addr × Obj)} {I : Addr} (h : ∀ p ∈ poolAt pre P Cc k u post, p.1 ≠ I) : ∀ p ∈ poolAt pre P Cc k' u' post, p.1 ≠ I := fun p hp => by
  unfold poolAt at hp h
  rcases List.mem_append.mp hp with hp | hp
  · exact h p (List.mem_append_left _ hp)
  · rcases List.mem_cons.mp hp with rfl | hp
    · exact h (P, listOf [.ref Cc, .int k u].toArray 0) (List.mem_append_right _ (List.mem_cons_self ..))
    · exact h p (List.mem_append_right _ (List.mem_cons_of_mem _ hp))
theorem poolAt_ne {pre : List (Addr × Obj)} {P Cc : Addr} {k : Int} {u : Tok} {post : List (Addr × Obj)} {I : Addr} (h : ∀ p ∈ poolAt pre P Cc k u post, p.1 ≠ I) : I ≠ P := fun e => h (P, _) (List.mem_append_right _ (List.mem_cons_self ..)) e.symm
def DEnd (h₀ : Heap) (L : Addr) (m : Str → Option Value) (s : Shared) (I : Addr) (oI : Obj) (C : Addr) (oC : Obj) (D : Addr) (oD : Obj) (pre : List (Addr × Obj)) (P Cc : Addr) (k : Int) (post : List (Addr × Obj)) (lo hi : Int) (y : Value) (s₂ : Shared) : Prop :=
  ∃ (r : Int) (t u : Tok) (h' : Heap) (tk : Nat), y = .int r t ∧ lo ≤ r ∧ r ≤ hi ∧ s₂ = { s with heap := h', toks := tk } ∧ Fr h₀ L h' m ∧ News h₀ L h' ((I, oI) :: (C, oC) :: (D, oD) :: poolAt pre P Cc k u post)
theorem DEnd.mk {I C D P Cc : Addr} {oI oC oD : Obj} {pre post : List (Addr × Obj)} {k lo hi r : Int} {t u : Tok} {h' : Heap} {tk : Nat} (F : Fr h₀ L h' m) (N : News h₀ L h' ((I, oI) :: (C, oC) :: (D, oD) :: (pre ++ (P, listOf [.ref Cc, .int k u].toArray 0) :: post))) (h1 : lo ≤ r) (h2 : r ≤ hi) :
    Stop (DEnd h₀ L m s I oI C oC D oD pre P Cc k post lo hi (.int r t) { s with heap := h', toks := tk }) := ⟨r, t, u, h', tk, rfl, h1, h2, rfl, F, N⟩
theorem draw_comp {elt : Expr} {x : Str} {scope : Scope} {cl : List (Str × Addr)} {Fin : List Value → List (Addr × Obj) → Prop} {n : Nat} {P Cc : Addr} {k lo hi a : Int} {u : Tok} (pre : List (Addr × Obj)) {post : List (Addr × Obj)}
    (hoff : ∀ p ∈ pre ++ post, p.1 ≠ P)
    (turn : ∀ i I oI C oC D ys t m₂ h tk u (E' : Value → Shared → Prop), i < n → NsObj oC m₂ → m₂ x = some (.int (a + (i : Int)) t) → Fr h₀ L h m → News h₀ L h ([(I, oI), (C, oC), (D, lst ys)] ++ (pre ++ (P, listOf [.ref Cc, .int (k + i) u].toArray 0) :: post)) →
      (∀ p ∈ [(I, oI), (C, oC), (D, lst ys)] ++ (pre ++ post), p.1 ≠ P) →
      wpAny (model prog w) A (eval elt (compEnvC scope cl C env)) (fun y s₂ => Stop (DEnd h₀ L m { s with heap := h, toks := tk } I oI C oC D (lst ys) pre P Cc (k + i + 1) post lo hi y s₂)) E' { s with heap := h, toks := tk })
    (fin : ∀ u ys xs, IntsAre ys xs → xs.length = n → (∀ x ∈ xs, lo ≤ x ∧ x ≤ hi) → Fin ys (pre ++ (P, listOf [.ref Cc, .int (k + n) u].toArray 0) :: post)) :
    CompRest prog w A h₀ L m env elt x scope cl s (fun _ => True) (fun i v => ∃ t, v = .int (a + (i : Int)) t) Fin n 0 [] (pre ++ (P, listOf [.ref Cc, .int k u].toArray 0) :: post) := by
  refine comp_rest (fun i ys news => ∃ u xs, news = poolAt pre P Cc (k + i) u post ∧ IntsAre ys xs ∧ xs.length = i ∧ ∀ x ∈ xs, lo ≤ x ∧ x ≤ hi) ?_ ?_ n 0 [] _ (Nat.zero_add _) ⟨u, [], by simp [poolAt], .nil, rfl, by simp⟩
  · rintro i ys news v I oI C oC D m₂ h tk E' hi' ⟨u, xs, rfl, hI, hl, hb⟩ ⟨t, rfl⟩ hC hm F N ⟨o1, o2, o3⟩ _
    refine wpAny_mono (turn i I oI C oC D ys t m₂ h tk u E' hi' hC hm F N ?_) (fun y s₂ q => ?_) fun _ _ x => x
    · have e1 := poolAt_ne o1
      have e2 := poolAt_ne o2
      have e3 := poolAt_ne o3
      intro p hp
      rcases List.mem_append.mp hp with hp | hp
      · simp only [List.mem_cons, List.not_mem_nil, or_false] at hp
        rcases hp with rfl | rfl | rfl
        · exact e1
        · exact e2
        · exact e3
      · exact hoff p hp
    · unfold Stop at q ⊢
      obtain ⟨r, t', u', h', tk', rfl, q1, q2, rfl, F', N'⟩ := q
      refine ⟨h', tk', _, rfl, F', N', ⟨poolAt_off o1, poolAt_off o2, poolAt_off o3⟩, u', xs ++ [r], ?_, intsAre_append hI (.cons _ _ .nil), by simp [hl], ?_⟩
      · rw [Int.natCast_add, ← Int.add_assoc]; rfl
      · intro z hz
        rcases List.mem_append.mp hz with hz | hz
        · exact hb z hz
        · rw [List.mem_singleton.mp hz]; exact ⟨q1, q2⟩
  · rintro ys news ⟨u, xs, rfl, hI, hl, hb⟩
    exact fin u ys xs hI hl hb
end
theorem words34 : True := by
  k_with_none
  trivial
-- A17
section
open LCg
variable {prog : Program} {w : World} {A : Around} {s : Shared} {h₀ : Heap} {L : Addr} {m : Str → Option Value} {env : Env}
theorem comp_restS {elt : Expr} {x : Str} {scope : Scope} {cl : List (Str × Addr)} {S : List (Addr × Obj) → Prop} {P : Nat → Value → Prop} {Fin : List Value → List (Addr × Obj) → Prop} {n : Nat} (Inv : Nat → List Value → List (Addr × Obj) → Prop)
    (hS : ∀ i ys news, Inv i ys news → S news)
    (turn : ∀ i ys news v I oI C oC D m₂ h tk (E' : Value → Shared → Prop), i < n → Inv i ys news → P i v → NsObj oC m₂ → m₂ x = some v → Fr h₀ L h m → News h₀ L h ((I, oI) :: (C, oC) :: (D, lst ys) :: news) →
      ((∀ p ∈ news, p.1 ≠ I) ∧ (∀ p ∈ news, p.1 ≠ C) ∧ (∀ p ∈ news, p.1 ≠ D)) → ((@Ne Nat I C) ∧ (@Ne Nat I D) ∧ (@Ne Nat C D)) →
      wpAny (model prog w) A (eval elt (compEnvC scope cl C env)) (fun y s₂ => Stop (CEnd h₀ L m { s with heap := h, toks := tk } I oI C oC D (lst ys) (fun y news' => Inv (i + 1) (ys ++ [y]) news') y s₂)) E' { s with heap := h, toks := tk })
    (fin : ∀ ys news, Inv n ys news → Fin ys news) : ∀ k i ys news, i + k = n → Inv i ys news → CompRest prog w A h₀ L m env elt x scope cl s S P Fin k i ys news
  | 0, i, ys, news, e, h => fin ys news (by rw [← e]; exact h)
  | k + 1, i, ys, news, e, hI => CompRest.succ fun v I oI C oC D m₂ h tk E' hP hC hm F N off ne => by
    have off' := off.mem
    refine wpAny_mono (turn i ys news v I oI C oC D m₂ h tk E' (by omega) hI hP hC hm F N ⟨fun p hp => (off' p hp).1, fun p hp => (off' p hp).2.1, fun p hp => (off' p hp).2.2⟩ ne) (fun y s₂ q => ?_) fun _ _ x => x
    unfold Stop at q
    obtain ⟨h', tk', news', rfl, F', N', ⟨o1, o2, o3⟩, hJ⟩ := q
    exact ⟨h', tk', news', rfl, F', N', Off3.of fun p hp => ⟨o1 p hp, o2 p hp, o3 p hp⟩, hS _ _ _ hJ, comp_restS Inv hS turn fin k (i + 1) _ _ (by omega) hJ⟩
def TEnd (h₀ : Heap) (L : Addr) (m : Str → Option Value) (s : Shared) (news : List (Addr × Obj)) (f : Int) (y : Value) (s₂ : Shared) : Prop :=
  ∃ (T : Addr) (t u : Tok) (k : Nat) (h' : Heap) (tk : Nat), y = .ref T ∧ s₂ = { s with heap := h', toks := tk } ∧ Fr h₀ L h' m ∧ News h₀ L h' ((T, tup2 f 1 t u k) :: news) ∧ AllLt T news
theorem TEnd.mk {T : Addr} {t u : Tok} {k : Nat} {news : List (Addr × Obj)} {f : Int} {h' : Heap} {tk : Nat} (F : Fr h₀ L h' m) (N : News h₀ L h' ((T, tup2 f 1 t u k) :: news)) (l : AllLt T news) : Stop (TEnd h₀ L m s news f (.ref T) { s with heap := h', toks := tk }) := ⟨T, t, u, k, h', tk, rfl, rfl, F, N, l⟩
theorem rat_comp {K : Frag} {elt : Expr} {x : Str} {scope : Scope} {cl : List (Str × Addr)} {S : List (Addr × Obj) → Prop} {P : Nat → Value → Prop} {Fin : List Value → List (Addr × Obj) → Prop} {n : Nat} (f : Nat → Int) (news : List (Addr × Obj))
    (hS : ∀ tl, S (news ++ tl))
    (turn : ∀ i v I oI C oC D ys m₂ h tk tl (E' : Value → Shared → Prop), i < n → P i v → NsObj oC m₂ → m₂ x = some v → Fr h₀ L h m → News h₀ L h ([(I, oI), (C, oC), (D, lst ys)] ++ (news ++ tl)) →
      wpAny (model prog w) A (eval elt (compEnvC scope cl C env)) (fun y s₂ => Stop (TEnd h₀ L m { s with heap := h, toks := tk } ([(I, oI), (C, oC), (D, lst ys)] ++ (news ++ tl)) (f i) y s₂)) E' { s with heap := h, toks := tk })
    (fin : ∀ tl ys, Fresh news tl → RatsUp K tl ys (fun i => ((f i : Int) : Rat)) n → Fin ys (news ++ tl)) :
    CompRest prog w A h₀ L m env elt x scope cl s S P Fin n 0 [] news := by
  refine comp_restS (fun i ys nx => ∃ tl, nx = news ++ tl ∧ Fresh news tl ∧ RatsUp K tl ys (fun i => ((f i : Int) : Rat)) i) ?_ ?_ ?_ n 0 [] _ (Nat.zero_add _) ⟨[], by simp, Fresh.nil, RatsUp.nil⟩
  · rintro i ys nx ⟨tl, rfl, _⟩
    exact hS tl
  · rintro i ys nx v I oI C oC D m₂ h tk E' hi ⟨tl, rfl, hfr, hr⟩ hP hC hm F N ⟨o1, o2, o3⟩ ne
    refine wpAny_mono (turn i v I oI C oC D ys m₂ h tk tl E' hi hP hC hm F N) (fun y s₂ q => ?_) fun _ _ x => x
    unfold Stop at q ⊢
    obtain ⟨T, t, u, k, h', tk', rfl, rfl, F', N', l⟩ := q
    have lt := ktn_ltOf l
    have e1 : I < T := lt (I, oI) (List.mem_append_left _ (List.mem_cons_self ..))
    have e2 : C < T := lt (C, oC) (List.mem_append_left _ (List.mem_cons_of_mem _ (List.mem_cons_self ..)))
    have e3 : D < T := lt (D, lst ys) (List.mem_append_left _ (List.mem_cons_of_mem _ (List.mem_cons_of_mem _ (List.mem_cons_self ..))))
    have ho : ∀ {J : Addr}, J < T → (∀ p ∈ news ++ tl, p.1 ≠ J) → ∀ p ∈ news ++ ((T, tup2 (f i) 1 t u k) :: tl), p.1 ≠ J := fun {J} hJ ho p hp => by
      rcases List.mem_append.mp hp with hp | hp
      · exact ho p (List.mem_append_left _ hp)
      · rcases List.mem_cons.mp hp with rfl | hp
        · exact Nat.ne_of_gt hJ
        · exact ho p (List.mem_append_right _ hp)
    refine ⟨h', tk', news ++ ((T, tup2 (f i) 1 t u k) :: tl), rfl, F', cb_drop N' (fun p hp => ?_), ⟨ho e1 o1, ho e2 o2, ho e3 o3⟩, _, rfl, Fresh.consr (fun q hq => Nat.ne_of_lt (lt q (List.mem_append_right _ (List.mem_append_left _ hq)))) hfr, hr.push (fun p hp => List.mem_cons_of_mem _ hp) (RatIn.int (List.mem_cons_self ..))⟩
    simp only [List.mem_cons, List.mem_append] at hp ⊢
    grind
  · rintro ys nx ⟨tl, rfl, hfr, hr⟩
    exact fin tl ys hfr hr
end
theorem RatsUp.ints {K : Frag} {tl : List (Addr × Obj)} {vs : List Value} {ns : List Int} (h : RatsUp K tl vs (fun i => ((ns.getD i 0 : Int) : Rat)) ns.length) : RatsIn K tl vs (ratsOf ns) :=
  h.rats (ratsOf_length ns) fun i _ => (ratsOf_getD ns i).symm
theorem RatsIn.cons {K : Frag} {tl : List (Addr × Obj)} {v : Value} {vs : List Value} {x : Rat} {xs : List Rat} (hv : RatIn K tl v x) (h : RatsIn K tl vs xs) : RatsIn K tl (v :: vs) (x :: xs) := by
  refine ⟨by simp [h.1], fun i u e => ?_⟩
  cases i with
  | zero => simp at e; subst e; exact hv
  | succ i => simpa using h.2 i u (by simpa using e)
-- A18
def slopes (hs row : List Int) : Nat → List Rat
  | 0 => (List.range row.length).map fun (k : Nat) => (((1 + (k : Int)) * hs.getD (k + 1) 0 : Int) : Rat)
  | n + 1 => timesS (slopes hs row n) (invL (ratsOf row) row.length)
theorem slopes_length (hs row : List Int) : ∀ n, (slopes hs row n).length = row.length
  | 0 => by simp [slopes]
  | n + 1 => by rw [slopes, timesS_length, slopes_length hs row n]
def Row (q : Nat) (row : List Int) : Prop := q < 2 ∧ row.length = 3 + q ∧ row.getD 0 0 ≠ 0 ∧ ∀ x ∈ row, -2 ≤ x ∧ x ≤ 2
def Hs (q : Nat) (hs : List Int) : Prop := hs.length = 4 + q ∧ ∀ x ∈ hs, -3 ≤ x ∧ x ≤ 3
-- P1
theorem comp4 (h0 h1 h2 h3 b1 b2 b3 : Rat) : compTo [h0, h1, h2, h3] [0, b1, b2, b3] 4 4 = [h0, h1 * b1, h1 * b2 + h2 * b1 * b1, h1 * b3 + 2 * h2 * b1 * b2 + h3 * b1 * b1 * b1] := by
  simp [compTo, smulS, mixedS, mixedTo, pickR, kms_lo, kms_hi, List.range_succ]
  grind
theorem comp5 (h0 h1 h2 h3 h4 b1 b2 b3 b4 : Rat) : compTo [h0, h1, h2, h3, h4] [0, b1, b2, b3, b4] 5 5 = [h0, h1 * b1, h1 * b2 + h2 * b1 * b1, h1 * b3 + 2 * h2 * b1 * b2 + h3 * b1 * b1 * b1, h1 * b4 + h2 * (2 * b1 * b3 + b2 * b2) + 3 * h3 * b1 * b1 * b2 + h4 * b1 * b1 * b1 * b1] := by
  simp [compTo, smulS, mixedS, mixedTo, pickR, kms_lo, kms_hi, List.range_succ]
  grind
theorem pick_tail (x : Rat) (xs : List Rat) : pickR (x :: xs) (some 1) none = xs := by
  simp [pickR, kms_lo, kms_hi, Nat.min_eq_left]
theorem trn_cons (x : Rat) (xs : List Rat) : trn (x :: xs) = invL xs xs.length := by rw [trn, pick_tail]
theorem rev3 {xs : List Rat} {t0 t1 t2 : Rat} (h : xs.length = 3) (e : invL xs xs.length = [t0, t1, t2]) : revL (0 :: xs) = [0, t0, t0 * t1, t0 * t0 * t2 + t0 * t1 * t1] := by
  simp [revL, h, List.range_succ, revF, trn_cons, h ▸ e, powS, smulS, mixedS, mixedTo]
  grind
theorem rev4 {xs : List Rat} {t0 t1 t2 t3 : Rat} (h : xs.length = 4) (e : invL xs xs.length = [t0, t1, t2, t3]) : revL (0 :: xs) = [0, t0, t0 * t1, t0 * t0 * t2 + t0 * t1 * t1, t0 * t0 * t0 * t3 + 3 * t0 * t0 * t1 * t2 + t0 * t1 * t1 * t1] := by
  simp [revL, h, List.range_succ, revF, trn_cons, h ▸ e, powS, smulS, mixedS, mixedTo]
  grind
theorem ext3 {xs : List Rat} (h : xs.length = 3) : ∃ a b c, xs = [a, b, c] := by
  match xs, h with
  | [a, b, c], _ => exact ⟨a, b, c, rfl⟩
theorem ext4 {xs : List Rat} (h : xs.length = 4) : ∃ a b c d, xs = [a, b, c, d] := by
  match xs, h with
  | [a, b, c, d], _ => exact ⟨a, b, c, d, rfl⟩
theorem iext4 {xs : List Int} (h : xs.length = 4) : ∃ a b c d, xs = [a, b, c, d] := by
  match xs, h with
  | [a, b, c, d], _ => exact ⟨a, b, c, d, rfl⟩
theorem iext5 {xs : List Int} (h : xs.length = 5) : ∃ a b c d e, xs = [a, b, c, d, e] := by
  match xs, h with
  | [a, b, c, d, e], _ => exact ⟨a, b, c, d, e, rfl⟩
theorem low_div (x : Rat) (n : Nat) : Rat.divInt x.num (x.den * (1 + (n : Int))) = x / ((1 + (n : Int) : Int) : Rat) := by
  rw [under_div _ _ _ (by omega), Rat.num_divInt_den]
theorem P_eq3 {row hs : List Int} (h : row.length = 3) (k : hs.length = 4) (n : Nat) (hn : n < 3) : (compTo (ratsOf hs) (revL (0 :: ratsOf row)) 4 4).getD (n + 1) 0 = Rat.divInt ((slopes hs row (n + 1)).getD n 0).num (((slopes hs row (n + 1)).getD n 0).den * (1 + (n : Int))) := by
  obtain ⟨h0, h1, h2, h3, rfl⟩ := iext4 k
  obtain ⟨t0, t1, t2, e⟩ := ext3 (invL_length (ratsOf row) row.length ▸ h)
  rw [low_div, rev3 (by rw [ratsOf_length, h]) (by rw [ratsOf_length, e])]
  simp only [ratsOf, List.map]
  rw [comp4]
  match n, hn with
  | 0, _ => simp [slopes, e, h, timesS, mixedS, mixedTo, List.range_succ]; grind
  | 1, _ => simp [slopes, e, h, timesS, mixedS, mixedTo, List.range_succ]; grind
  | 2, _ => simp [slopes, e, h, timesS, mixedS, mixedTo, List.range_succ]; grind
theorem P_eq4 {row hs : List Int} (h : row.length = 4) (k : hs.length = 5) (n : Nat) (hn : n < 4) : (compTo (ratsOf hs) (revL (0 :: ratsOf row)) 5 5).getD (n + 1) 0 = Rat.divInt ((slopes hs row (n + 1)).getD n 0).num (((slopes hs row (n + 1)).getD n 0).den * (1 + (n : Int))) := by
  obtain ⟨h0, h1, h2, h3, h4, rfl⟩ := iext5 k
  obtain ⟨t0, t1, t2, t3, e⟩ := ext4 (invL_length (ratsOf row) row.length ▸ h)
  rw [low_div, rev4 (by rw [ratsOf_length, h]) (by rw [ratsOf_length, e])]
  simp only [ratsOf, List.map]
  rw [comp5]
  match n, hn with
  | 0, _ => simp [slopes, e, h, timesS, mixedS, mixedTo, List.range_succ]; grind
  | 1, _ => simp [slopes, e, h, timesS, mixedS, mixedTo, List.range_succ]; grind
  | 2, _ => simp [slopes, e, h, timesS, mixedS, mixedTo, List.range_succ]; grind
  | 3, _ => simp [slopes, e, h, timesS, mixedS, mixedTo, List.range_succ]; grind
theorem P_eq' {q : Nat} {row hs : List Int} (h : Row q row) (k : Hs q hs) (n : Nat) (hn : n < 3 + q) : (compTo (ratsOf hs) (revL (0 :: ratsOf row)) (4 + q) (4 + q)).getD (n + 1) 0 = Rat.divInt ((slopes hs row (n + 1)).getD n 0).num (((slopes hs row (n + 1)).getD n 0).den * (1 + (n : Int))) := by
  obtain ⟨hq, hl, -, -⟩ := h
  obtain ⟨kl, -⟩ := k
  have : q = 0 ∨ q = 1 := by omega
  rcases this with rfl | rfl
  · exact P_eq3 hl kl n hn
  · exact P_eq4 hl kl n hn
theorem P_eq0' {q : Nat} {row hs : List Int} (h : Row q row) (k : Hs q hs) : (compTo (ratsOf hs) (revL (0 :: ratsOf row)) (4 + q) (4 + q)).getD 0 0 = (ratsOf hs).getD 0 0 := by
  obtain ⟨hq, hl, -, -⟩ := h
  obtain ⟨kl, -⟩ := k
  have : q = 0 ∨ q = 1 := by omega
  rcases this with rfl | rfl
  · obtain ⟨h0, h1, h2, h3, rfl⟩ := iext4 kl
    obtain ⟨t0, t1, t2, e⟩ := ext3 (invL_length (ratsOf row) row.length ▸ hl)
    rw [rev3 (by rw [ratsOf_length, hl]) (by rw [ratsOf_length, e])]
    simp only [ratsOf, List.map]
    rw [comp4]
    rfl
  · obtain ⟨h0, h1, h2, h3, h4, rfl⟩ := iext5 kl
    obtain ⟨t0, t1, t2, t3, e⟩ := ext4 (invL_length (ratsOf row) row.length ▸ hl)
    rw [rev4 (by rw [ratsOf_length, hl]) (by rw [ratsOf_length, e])]
    simp only [ratsOf, List.map]
    rw [comp5]
    rfl
-- P2
def It (d N : Nat) (x : Rat) : Prop := ∃ n : Int, x * (d : Rat) = (n : Rat) ∧ n.natAbs ≤ N
theorem It.zero {d N : Nat} : It d N 0 := ⟨0, by simp, by simp⟩
theorem It.mul {d e N M : Nat} {x y : Rat} (hx : It d N x) (hy : It e M y) : It (d * e) (N * M) (x * y) := by
  obtain ⟨n, h1, h2⟩ := hx
  obtain ⟨m, h3, h4⟩ := hy
  refine ⟨n * m, ?_, ?_⟩
  · rw [Rat.intCast_mul, ← h1, ← h3, Rat.natCast_mul]
    grind
  · rw [Int.natAbs_mul]
    exact Nat.mul_le_mul h2 h4
theorem It.add {d N M : Nat} {x y : Rat} (hx : It d N x) (hy : It d M y) : It d (N + M) (x + y) := by
  obtain ⟨n, h1, h2⟩ := hx
  obtain ⟨m, h3, h4⟩ := hy
  refine ⟨n + m, ?_, by omega⟩
  rw [Rat.intCast_add, ← h1, ← h3]
  grind
theorem It.mono {d N M : Nat} {x : Rat} (hx : It d N x) (h : N ≤ M) : It d M x := by
  obtain ⟨n, h1, h2⟩ := hx
  exact ⟨n, h1, by omega⟩
theorem It.scale {d e N : Nat} {x : Rat} (hx : It d N x) : It (d * e) (N * e) x := by
  obtain ⟨n, h1, h2⟩ := hx
  refine ⟨n * e, ?_, ?_⟩
  · rw [Rat.intCast_mul, ← h1, Rat.natCast_mul, ← Rat.mul_assoc]
    rfl
  · rw [Int.natAbs_mul, Int.natAbs_natCast]
    exact Nat.mul_le_mul_right _ h2
theorem It.small {d N : Nat} {x : Rat} (hx : It d N x) (h0 : 0 < d) (h1 : d < 18446744073709551616) (h2 : N < 18446744073709551616) : Small x := by
  obtain ⟨n, e, hn⟩ := hx
  have hd' : (d : Int) ≠ 0 := by omega
  have hd : ((d : Int) : Rat) ≠ 0 := fun h => hd' (Rat.intCast_inj.mp h)
  have en : (n : Rat) = Rat.divInt n 1 := by
    conv => lhs; rw [← Rat.num_divInt_den (n : Rat)]
    simp
  have ex : x = Rat.divInt n (d : Int) := by
    rw [← Int.one_mul (d : Int), under_div _ _ _ hd', ← en, ← e]
    have e2 : ((d : Int) : Rat) = (d : Rat) := rfl
    rw [e2] at hd ⊢
    grind
  rw [ex]
  constructor
  · rw [← rat_num hd']
    exact Nat.lt_of_le_of_lt (Nat.le_trans (natAbs_fdiv_le _ _) hn) h2
  · have := natAbs_fdiv_le (d : Int) (if (d : Int) > 0 then (Int.gcd n d : Int) else 0 - Int.gcd n d)
    have e3 := rat_den (x := n) hd'
    rw [e3] at this
    simp only [Int.natAbs_natCast] at this
    omega
def Gr (e c N g : Nat) (xs : List Rat) : Prop := ∀ k, It (e * c ^ k) (N * g ^ k) (xs.getD k 0)
theorem Gr.to {e e' c N M g : Nat} {xs ys : List Rat} (hx : Gr e c N g xs) (hy : Gr e' c M g ys) (k : Nat) : ∀ j, j ≤ k + 1 → It (e * e' * c ^ k) (j * (N * M * g ^ k)) (mixedTo xs ys k j)
  | 0, _ => It.zero.mono (Nat.zero_le _)
  | j + 1, h => by
    have h1 := Gr.to hx hy k j (by omega)
    have h2 := (hx j).mul (hy (k - j))
    have e1 : e * c ^ j * (e' * c ^ (k - j)) = e * e' * c ^ k := by
      rw [Nat.mul_mul_mul_comm, ← Nat.pow_add]
      congr 2
      omega
    have e2 : N * g ^ j * (M * g ^ (k - j)) = N * M * g ^ k := by
      rw [Nat.mul_mul_mul_comm, ← Nat.pow_add]
      congr 2
      omega
    rw [e1, e2] at h2
    exact (h1.add h2).mono (by rw [Nat.succ_mul]; exact Nat.le_refl _)
theorem Gr.mixed {e e' c N M g m : Nat} {xs ys : List Rat} (hx : Gr e c N g xs) (hy : Gr e' c M g ys) (k : Nat) (h : k < m) : It (e * e' * c ^ k) (m * (N * M) * g ^ k) (mixedS xs ys k) :=
  (Gr.to hx hy k (k + 1) (Nat.le_refl _)).mono (by rw [← Nat.mul_assoc]; exact Nat.mul_le_mul_right _ (Nat.mul_le_mul_right _ h))
theorem Gr.smul {e e' c N M g m : Nat} {xs ys : List Rat} (hx : Gr e c N g xs) (hy : Gr e' c M g ys) (h : min xs.length ys.length ≤ m) : Gr (e * e') c (m * (N * M)) g (smulS xs ys) := fun k => by
  by_cases hk : k < min xs.length ys.length
  · rw [smulS_getD hk]
    exact Gr.mixed hx hy k (by omega)
  · have : (smulS xs ys).getD k 0 = 0 := by simp [List.getD, List.getElem?_eq_none (show (smulS xs ys).length ≤ k by rw [smulS_length]; omega)]
    rw [this]
    exact It.zero.mono (Nat.zero_le _)
theorem Gr.times {e e' c N M g m : Nat} {xs ys : List Rat} (hx : Gr e c N g xs) (hy : Gr e' c M g ys) (h : xs.length ≤ m) : Gr (e * e') c (m * (N * M)) g (timesS xs ys) := fun k => by
  by_cases hk : k < xs.length
  · rw [timesS_getD hk]
    exact Gr.mixed hx hy k (by omega)
  · have : (timesS xs ys).getD k 0 = 0 := by simp [List.getD, List.getElem?_eq_none (show (timesS xs ys).length ≤ k by rw [timesS_length]; omega)]
    rw [this]
    exact It.zero.mono (Nat.zero_le _)
theorem Gr.bds {e c N g m : Nat} {xs : List Rat} (h : Gr e c N g xs) (hl : xs.length ≤ m + 1) (he : 0 < e) (hc : 0 < c) (hg : 0 < g) (h1 : e * c ^ m < 18446744073709551616) (h2 : N * g ^ m < 18446744073709551616) : Bds 64 xs :=
  getD_bd (fun i hi => ((h i).small (Nat.mul_pos he (Nat.pow_pos hc)) (Nat.lt_of_le_of_lt (Nat.mul_le_mul_left _ (Nat.pow_le_pow_right hc (by omega))) h1) (Nat.lt_of_le_of_lt (Nat.mul_le_mul_left _ (Nat.pow_le_pow_right hg (by omega))) h2)).bd) (by decide)
-- P3
theorem invE0 (xs : List Rat) : invE xs 0 = 1 / xs.getD 0 0 := by simp [invE, subTo]
theorem invE1 (xs : List Rat) : invE xs 1 = (0 - xs.getD 1 0 * invE xs 0) / xs.getD 0 0 := by
  rw [invE, subTo, subTo, invL_getD _ _ _ (by decide)]; rfl
theorem invE2 (xs : List Rat) : invE xs 2 = (0 - xs.getD 1 0 * invE xs 1 - xs.getD 2 0 * invE xs 0) / xs.getD 0 0 := by
  rw [invE, subTo, subTo, subTo, invL_getD _ _ _ (by decide), invL_getD _ _ _ (by decide)]; rfl
theorem invE3 (xs : List Rat) : invE xs 3 = (0 - xs.getD 1 0 * invE xs 2 - xs.getD 2 0 * invE xs 1 - xs.getD 3 0 * invE xs 0) / xs.getD 0 0 := by
  rw [invE, subTo, subTo, subTo, subTo, invL_getD _ _ _ (by decide), invL_getD _ _ _ (by decide), invL_getD _ _ _ (by decide)]; rfl
theorem half {r : Int} (h0 : r ≠ 0) (h1 : -2 ≤ r) (h2 : r ≤ 2) : ∃ s : Int, (s : Rat) = 2 / (r : Rat) ∧ -2 ≤ s ∧ s ≤ 2 := by
  have : r = 1 ∨ r = -1 ∨ r = 2 ∨ r = -2 := by omega
  rcases this with rfl | rfl | rfl | rfl
  · exact ⟨2, by decide +kernel, by decide, by decide⟩
  · exact ⟨-2, by decide +kernel, by decide, by decide⟩
  · exact ⟨1, by decide +kernel, by decide, by decide⟩
  · exact ⟨-1, by decide +kernel, by decide, by decide⟩
theorem mulb {a b : Int} {A B : Nat} (h : a.natAbs ≤ A) (k : b.natAbs ≤ B) : (a * b).natAbs ≤ A * B := by
  rw [Int.natAbs_mul]
  exact Nat.mul_le_mul h k
theorem inv_gr {r : Nat → Int} {xs : List Rat} (hx : ∀ k, xs.getD k 0 = ((r k : Int) : Rat)) (h0 : r 0 ≠ 0) (hb : ∀ k, -2 ≤ r k ∧ r k ≤ 2) :
    It 2 2 (invE xs 0) ∧ It 4 12 (invE xs 1) ∧ It 8 72 (invE xs 2) ∧ It 16 432 (invE xs 3) := by
  obtain ⟨s, hs, s1, s2⟩ := half h0 (hb 0).1 (hb 0).2
  have hr : (r 0 : Rat) ≠ 0 := fun h => h0 (by have := Rat.intCast_inj.mp (h.trans Rat.intCast_zero.symm); exact this)
  have t0 : invE xs 0 * 2 = (s : Rat) := by rw [invE0, hx, hs]; grind
  have t1 : invE xs 1 * 4 = ((-(s * (r 1 * s)) : Int) : Rat) := by
    rw [invE1, hx, hx]
    simp only [Rat.intCast_mul, Rat.intCast_neg]
    grind
  have t2 : invE xs 2 * 8 = ((-(s * (r 1 * (-(s * (r 1 * s))) + 2 * (r 2 * s))) : Int) : Rat) := by
    rw [invE2, hx, hx, hx]
    simp only [Rat.intCast_mul, Rat.intCast_neg, Rat.intCast_add] at t1 ⊢
    grind
  have t3 : invE xs 3 * 16 = ((-(s * (r 1 * (-(s * (r 1 * (-(s * (r 1 * s))) + 2 * (r 2 * s)))) + 2 * (r 2 * (-(s * (r 1 * s)))) + 4 * (r 3 * s))) : Int) : Rat) := by
    rw [invE3, hx, hx, hx, hx]
    simp only [Rat.intCast_mul, Rat.intCast_neg, Rat.intCast_add] at t1 t2 ⊢
    grind
  have bs : s.natAbs ≤ 2 := by omega
  have b1 : (r 1).natAbs ≤ 2 := by have := hb 1; omega
  have b2 : (r 2).natAbs ≤ 2 := by have := hb 2; omega
  have b3 : (r 3).natAbs ≤ 2 := by have := hb 3; omega
  have n1 := mulb bs (mulb b1 bs)
  generalize s * (r 1 * s) = u1 at *
  have m1 := mulb b1 (show (-u1).natAbs ≤ 8 by omega)
  have m2 := mulb b2 bs
  have m3 := mulb b2 (show (-u1).natAbs ≤ 8 by omega)
  have m4 := mulb b3 bs
  have n2 := mulb bs (show (r 1 * -u1 + 2 * (r 2 * s)).natAbs ≤ 24 by omega)
  generalize s * (r 1 * -u1 + 2 * (r 2 * s)) = u2 at *
  have m5 := mulb b1 (show (-u2).natAbs ≤ 48 by omega)
  have n3 := mulb bs (show (r 1 * -u2 + 2 * (r 2 * -u1) + 4 * (r 3 * s)).natAbs ≤ 144 by omega)
  exact ⟨⟨_, t0, bs⟩, ⟨_, t1, by omega⟩, ⟨_, t2, by omega⟩, ⟨_, t3, by omega⟩⟩
-- P4
theorem getD_mem {ns : List Int} {P : Int → Prop} (h : ∀ x ∈ ns, P x) (h0 : P 0) (k : Nat) : P (ns.getD k 0) := by
  by_cases hk : k < ns.length
  · rw [show ns.getD k 0 = ns[k] by simp [List.getD, List.getElem?_eq_getElem hk]]
    exact h _ (List.getElem_mem hk)
  · rw [show ns.getD k 0 = 0 by simp [List.getD, List.getElem?_eq_none (Nat.not_lt.mp hk)]]
    exact h0
theorem small_int {n : Int} (h : n.natAbs ≤ 100) : Small (n : Rat) := by
  constructor
  · show n.natAbs < _
    omega
  · show (1 : Nat) < _
    decide
theorem ints_bds {ns : List Int} (h : ∀ x ∈ ns, x.natAbs ≤ 100) : Bds 64 (ratsOf ns) := fun i => by
  rw [ratsOf_getD]
  exact (small_int (getD_mem h (by decide) i)).bd
theorem Gr.smallAt {e c N g m k : Nat} {xs : List Rat} (h : Gr e c N g xs) (hk : k ≤ m) (he : 0 < e) (hc : 0 < c) (hg : 0 < g) (h1 : e * c ^ m < 18446744073709551616) (h2 : N * g ^ m < 18446744073709551616) : Small (xs.getD k 0) :=
  (h k).small (Nat.mul_pos he (Nat.pow_pos hc)) (Nat.lt_of_le_of_lt (Nat.mul_le_mul_left _ (Nat.pow_le_pow_right hc hk)) h1) (Nat.lt_of_le_of_lt (Nat.mul_le_mul_left _ (Nat.pow_le_pow_right hg hk)) h2)
theorem row_inv {q : Nat} {row : List Int} (h : Row q row) : It 2 2 (invE (ratsOf row) 0) ∧ It 4 12 (invE (ratsOf row) 1) ∧ It 8 72 (invE (ratsOf row) 2) ∧ It 16 432 (invE (ratsOf row) 3) :=
  inv_gr (r := fun k => row.getD k 0) (ratsOf_getD row) h.2.2.1 fun k => getD_mem h.2.2.2 (by decide) k
theorem row_small {q : Nat} {row : List Int} (h : Row q row) (k : Nat) (hk : k < 4) : Small (invE (ratsOf row) k) := by
  obtain ⟨h0, h1, h2, h3⟩ := row_inv h
  match k, hk with
  | 0, _ => exact h0.small (by decide) (by decide) (by decide)
  | 1, _ => exact h1.small (by decide) (by decide) (by decide)
  | 2, _ => exact h2.small (by decide) (by decide) (by decide)
  | 3, _ => exact h3.small (by decide) (by decide) (by decide)
theorem T_gr {q : Nat} {row : List Int} (h : Row q row) : Gr 2 2 2 6 (invL (ratsOf row) row.length) := fun k => by
  have hl := h.2.1
  have hq := h.1
  by_cases hk : k < row.length
  · rw [invL_getD _ _ _ hk]
    obtain ⟨h0, h1, h2, h3⟩ := row_inv h
    have hk4 : k < 4 := by omega
    clear hk
    match k, hk4 with
    | 0, _ => exact h0
    | 1, _ => exact h1
    | 2, _ => exact h2
    | 3, _ => exact h3
  · rw [show (invL (ratsOf row) row.length).getD k 0 = 0 by simp [List.getD, List.getElem?_eq_none (show (invL (ratsOf row) row.length).length ≤ k by rw [invL_length]; omega)]]
    exact It.zero.mono (Nat.zero_le _)
theorem pow_gr {T : List Rat} (h : Gr 2 2 2 6 T) (hl : T.length ≤ 4) : ∀ j, Gr (2 ^ (j + 1)) 2 (4 ^ j * 2 ^ (j + 1)) 6 (powS T j)
  | 0 => h
  | j + 1 => by
    have := Gr.smul (m := 4) (pow_gr h hl j) h (by rw [powS_length]; omega)
    have e : 4 * (4 ^ j * 2 ^ (j + 1) * 2) = 4 ^ (j + 1) * 2 ^ (j + 1 + 1) := by
      rw [Nat.pow_succ 4, Nat.pow_succ 2 (j + 1)]
      grind
    rw [e] at this
    exact this
theorem It.divn {d N : Nat} {x : Rat} (h : It d N x) {c : Int} {n : Nat} (hc : c = n) (hn : n ≠ 0) : It (d * n) N (x / (c : Rat)) := by
  obtain ⟨m, h1, h2⟩ := h
  refine ⟨m, ?_, h2⟩
  subst hc
  have hd : ((n : Int) : Rat) ≠ 0 := fun h => by
    have := Rat.intCast_inj.mp (h.trans Rat.intCast_zero.symm)
    omega
  have e2 : ((n : Int) : Rat) = (n : Rat) := rfl
  rw [Rat.natCast_mul, ← h1]
  rw [e2] at hd ⊢
  grind
theorem rev_gr {q : Nat} {row : List Int} (h : Row q row) : Gr 1 48 1 220 (revL (0 :: ratsOf row)) := fun k => by
  have hl := h.2.1
  have hq := h.1
  have hT := pow_gr (T_gr h) (by rw [invL_length]; omega)
  by_cases hk : k < (0 :: ratsOf row).length
  · rw [revL_getD hk]
    have hk5 : k < 5 := by rw [List.length_cons, ratsOf_length] at hk; omega
    clear hk
    have ht : trn (0 :: ratsOf row) = invL (ratsOf row) row.length := by rw [trn_cons, ratsOf_length]
    match k, hk5 with
    | 0, _ => exact It.zero.mono (Nat.zero_le _)
    | 1, _ => rw [revF, ht]; exact (((hT 0) 0).divn (n := 1) rfl (by decide)).scale (e := 24) |>.mono (by decide)
    | 2, _ => rw [revF, ht]; exact (((hT 1) 1).divn (n := 2) rfl (by decide)).scale (e := 144) |>.mono (by decide)
    | 3, _ => rw [revF, ht]; exact (((hT 2) 2).divn (n := 3) rfl (by decide)).scale (e := 1152) |>.mono (by decide)
    | 4, _ => rw [revF, ht]; exact (((hT 3) 3).divn (n := 4) rfl (by decide)).scale (e := 10368) |>.mono (by decide)
  · rw [show (revL (0 :: ratsOf row)).getD k 0 = 0 by simp [List.getD, List.getElem?_eq_none (show (revL (0 :: ratsOf row)).length ≤ k by rw [revL_length]; omega)]]
    exact It.zero.mono (Nat.zero_le _)
-- P5
theorem abs2 {ns : List Int} {b : Int} (hb : b ≤ 100) (h : ∀ x ∈ ns, -b ≤ x ∧ x ≤ b) : ∀ x ∈ ns, x.natAbs ≤ 100 := fun x hx => by
  have := h x hx
  omega
theorem P_inv' {q : Nat} {row : List Int} (h : Row q row) : Bds 64 (invL (ratsOf row) row.length) :=
  (T_gr h).bds (m := 3) (by rw [invL_length]; have := h.1; have := h.2.1; omega) (by decide) (by decide) (by decide) (by decide) (by decide)
theorem P_under' {q : Nat} {row : List Int} (h : Row q row) : 0 < row.length ∧ row.length ≤ 100 ∧ (∀ i, iBits (row.getD i 0) ≤ 64) ∧ row.getD 0 0 ≠ 0 ∧ ∀ k, k < row.length → Small (invE (ratsOf row) k) := by
  have hl := h.2.1
  have hq := h.1
  refine ⟨by omega, by omega, fun i => ?_, h.2.2.1, fun k hk => row_small h k (by omega)⟩
  have := getD_mem (abs2 (by decide) h.2.2.2) (by decide) i
  exact intBits_le_iff.mpr (Nat.lt_of_le_of_lt this (by decide))
theorem pow_cap {T : List Rat} (h : ∀ j, Gr (2 ^ (j + 1)) 2 (4 ^ j * 2 ^ (j + 1)) 6 (powS T j)) (j : Nat) (hj : j < 5) : Gr 32 2 8192 6 (powS T j) := fun k => by
  have h1 := (h j k).scale (e := 2 ^ (4 - j))
  have e1 : 2 ^ (j + 1) * 2 ^ k * 2 ^ (4 - j) = 32 * 2 ^ k := by
    rw [Nat.mul_right_comm, ← Nat.pow_add, show j + 1 + (4 - j) = 5 by omega]
  rw [e1] at h1
  refine h1.mono ?_
  have e2 : 4 ^ j * 2 ^ (j + 1) * 6 ^ k * 2 ^ (4 - j) = 4 ^ j * 32 * 6 ^ k := by
    rw [Nat.mul_right_comm, Nat.mul_assoc (4 ^ j), ← Nat.pow_add, show j + 1 + (4 - j) = 5 by omega]
  rw [e2]
  refine Nat.mul_le_mul_right _ ?_
  have : 4 ^ j ≤ 4 ^ 4 := Nat.pow_le_pow_right (by decide) (by omega)
  omega
theorem P_rev' {q : Nat} {row : List Int} (h : Row q row) : 2 ≤ (0 :: ratsOf row).length ∧ (0 :: ratsOf row).length ≤ 100 ∧ (0 :: ratsOf row).getD 0 0 = 0 ∧ Bds 64 (pickR (0 :: ratsOf row) (some 1) none) ∧ (pickR (0 :: ratsOf row) (some 1) none).getD 0 0 ≠ 0 ∧ (∀ k, k < (pickR (0 :: ratsOf row) (some 1) none).length → Small (invE (pickR (0 :: ratsOf row) (some 1) none) k)) ∧
      Bds 64 (trn (0 :: ratsOf row)) ∧ (∀ j, j + 1 < (0 :: ratsOf row).length → Bds 64 (powS (trn (0 :: ratsOf row)) j)) ∧ ∀ j, j + 1 < (0 :: ratsOf row).length → ∀ k, k < min (powS (trn (0 :: ratsOf row)) j).length (trn (0 :: ratsOf row)).length → Small (mixedS (powS (trn (0 :: ratsOf row)) j) (trn (0 :: ratsOf row)) k) := by
  have hl := h.2.1
  have hq := h.1
  have hT := pow_gr (T_gr h) (by rw [invL_length]; omega)
  have ht : trn (0 :: ratsOf row) = invL (ratsOf row) row.length := by rw [trn_cons, ratsOf_length]
  have hlen : ∀ j, (powS (invL (ratsOf row) row.length) j).length = row.length := fun j => by rw [powS_length, invL_length]
  rw [pick_tail, ht, List.length_cons, ratsOf_length, invL_length]
  refine ⟨by omega, by omega, rfl, ints_bds (abs2 (by decide) h.2.2.2), fun e => ?_, fun k hk => row_small h k (by omega), P_inv' h, fun j hj => ?_, fun j hj k hk => ?_⟩
  · rw [ratsOf_getD] at e
    exact h.2.2.1 (Rat.intCast_inj.mp (e.trans Rat.intCast_zero.symm))
  · exact (pow_cap hT j (by omega)).bds (m := 3) (by rw [hlen]; omega) (by decide) (by decide) (by decide) (by decide) (by decide)
  · rw [← smulS_getD (by rw [invL_length]; exact hk)]
    exact Gr.smallAt (m := 3) (pow_cap hT (j + 1) (by omega)) (by omega) (by decide) (by decide) (by decide) (by decide) (by decide)
def bF : Nat → Nat
  | 0 => 0
  | i + 1 => 5 * bF i + 3
theorem pick_all {ys : List Rat} {m : Nat} (h : m = ys.length) : pickR ys none (some (m : Int)) = ys := by
  subst h
  simp only [pickR, kms_lo, kms_hi]
  rw [if_neg (by omega)]
  simp
theorem comp_gr {hs : List Int} {ys : List Rat} {m : Nat} (hb : ∀ x ∈ hs, -3 ≤ x ∧ x ≤ 3) (hy : Gr 1 48 1 220 ys) (hm : m = ys.length) (hm5 : m ≤ 5) : ∀ i, Gr 1 48 (bF i) 220 (compTo (ratsOf hs) ys m i)
  | 0 => fun k => by
    rw [compTo]
    by_cases hk : k < m
    · rw [show (List.replicate m (0 : Rat)).getD k 0 = 0 by simp [List.getD, List.getElem?_replicate, hk]]
      exact It.zero.mono (Nat.zero_le _)
    · rw [show (List.replicate m (0 : Rat)).getD k 0 = 0 by simp [List.getD, List.getElem?_replicate, hk]]
      exact It.zero.mono (Nat.zero_le _)
  | i + 1 => by
    have ih := Gr.smul (m := 5) (comp_gr hb hy hm hm5 i) hy (by rw [← hm]; omega)
    rw [Nat.mul_one] at ih
    intro k
    rw [compTo, pick_all hm]
    have hh : It (1 * 1 * 48 ^ 0) 3 ((ratsOf hs).getD (m - 1 - i) 0) := by
      rw [ratsOf_getD]
      have := getD_mem hb (by decide) (m - 1 - i)
      exact ⟨hs.getD (m - 1 - i) 0, by simp, by omega⟩
    cases k with
    | zero =>
      by_cases h0 : 0 < (smulS (compTo (ratsOf hs) ys m i) ys).length
      · rw [show ∀ z : Rat, ((smulS (compTo (ratsOf hs) ys m i) ys).set 0 z).getD 0 0 = z from fun z => by simp [List.getD, List.getElem?_set, h0]]
        exact ((ih 0).add hh).mono (by simp [bF])
      · rw [show ∀ z : Rat, ((smulS (compTo (ratsOf hs) ys m i) ys).set 0 z).getD 0 0 = 0 from fun z => by simp [List.getD, List.getElem?_set, h0]]
        exact It.zero.mono (Nat.zero_le _)
    | succ k =>
      rw [show ∀ z : Rat, ((smulS (compTo (ratsOf hs) ys m i) ys).set 0 z).getD (k + 1) 0 = (smulS (compTo (ratsOf hs) ys m i) ys).getD (k + 1) 0 from fun z => by simp [List.getD, List.getElem?_set]]
      exact (ih (k + 1)).mono (Nat.mul_le_mul_right _ (by rw [bF]; omega))
-- P6
theorem comp_cap {hs : List Int} {ys : List Rat} {m : Nat} (hb : ∀ x ∈ hs, -3 ≤ x ∧ x ≤ 3) (hy : Gr 1 48 1 220 ys) (hm : m = ys.length) (hm5 : m ≤ 5) (i : Nat) (hi : i < 5) : Gr 1 48 468 220 (compTo (ratsOf hs) ys m i) := fun k =>
  (comp_gr hb hy hm hm5 i k).mono (Nat.mul_le_mul_right _ (by
    have : i = 0 ∨ i = 1 ∨ i = 2 ∨ i = 3 ∨ i = 4 := by omega
    rcases this with rfl | rfl | rfl | rfl | rfl <;> decide))
theorem P_comp' {q : Nat} {row hs : List Int} (h : Row q row) (k : Hs q hs) : 0 < 4 + q ∧ (ratsOf hs).length = 4 + q ∧ (revL (0 :: ratsOf row)).length = 4 + q ∧ 4 + q ≤ 100 ∧ (revL (0 :: ratsOf row)).getD 0 0 = 0 ∧ Bds 64 (ratsOf hs) ∧ Bds 64 (pickR (revL (0 :: ratsOf row)) none (some (4 + q : Nat))) ∧ (∀ i, i < 4 + q → Bds 64 (compTo (ratsOf hs) (revL (0 :: ratsOf row)) (4 + q) i)) ∧
      ∀ i, i < 4 + q → ∀ k, k < min (compTo (ratsOf hs) (revL (0 :: ratsOf row)) (4 + q) i).length (pickR (revL (0 :: ratsOf row)) none (some (4 + q : Nat))).length → Small (mixedS (compTo (ratsOf hs) (revL (0 :: ratsOf row)) (4 + q) i) (pickR (revL (0 :: ratsOf row)) none (some (4 + q : Nat))) k) := by
  have hl := h.2.1
  have hq := h.1
  have hrl : (revL (0 :: ratsOf row)).length = 4 + q := by rw [revL_length, List.length_cons, ratsOf_length]; omega
  rw [pick_all hrl.symm]
  have hc := comp_cap (ys := revL (0 :: ratsOf row)) k.2 (rev_gr h) hrl.symm (by omega)
  have hcl : ∀ i, (compTo (ratsOf hs) (revL (0 :: ratsOf row)) (4 + q) i).length = 4 + q := compTo_length _ _ _ hrl.symm
  refine ⟨by omega, by rw [ratsOf_length, k.1], hrl, by omega, ?_, ints_bds (abs2 (by decide) k.2), ?_, fun i hi => ?_, fun i hi j hj => ?_⟩
  · rw [revL_getD (by rw [List.length_cons]; omega)]; rfl
  · exact (rev_gr h).bds (m := 4) (by omega) (by decide) (by decide) (by decide) (by decide) (by decide)
  · exact (hc i (by omega)).bds (m := 4) (by rw [hcl]; omega) (by decide) (by decide) (by decide) (by decide) (by decide)
  · rw [← smulS_getD hj]
    rw [hcl, hrl] at hj
    have := Gr.smul (m := 5) (hc i (by omega)) (rev_gr h) (by rw [hcl, hrl]; omega)
    exact this.smallAt (m := 4) (by omega) (by decide) (by decide) (by decide) (by decide) (by decide)
theorem slopes_gr {q : Nat} {row hs : List Int} (h : Row q row) (k : Hs q hs) : ∀ n, Gr (2 ^ n) 2 (12 * 8 ^ n) 6 (slopes hs row n)
  | 0 => fun j => by
    have hl := h.2.1
    have hq := h.1
    by_cases hj : j < row.length
    · have e : (slopes hs row 0).getD j 0 = (((1 + (j : Int)) * hs.getD (j + 1) 0 : Int) : Rat) := by
        simp [slopes, List.getD, List.getElem?_map, List.getElem?_range hj]
      rw [e]
      have hb := getD_mem k.2 (by decide) (j + 1)
      generalize hs.getD (j + 1) 0 = z at *
      refine ⟨(1 + (j : Int)) * z * ((2 ^ j : Nat) : Int), ?_, ?_⟩
      · rw [Nat.pow_zero, Nat.one_mul, Rat.intCast_mul _ ((2 ^ j : Nat) : Int)]; rfl
      · have h1 : ((1 + (j : Int)) * z).natAbs ≤ 4 * 3 := mulb (by omega) (by omega)
        have h2 : 2 ^ j ≤ 6 ^ j := Nat.pow_le_pow_left (by decide) j
        exact mulb (B := 6 ^ j) (Nat.le_trans h1 (by decide)) (by rw [Int.natAbs_natCast]; exact h2)
    · rw [show (slopes hs row 0).getD j 0 = 0 by simp [List.getD, List.getElem?_eq_none (show (slopes hs row 0).length ≤ j by rw [slopes_length]; omega)]]
      exact It.zero.mono (Nat.zero_le _)
  | n + 1 => by
    have hl := h.2.1
    have hq := h.1
    have := Gr.times (m := 4) (slopes_gr h k n) (T_gr h) (by rw [slopes_length]; omega)
    have e : 4 * (12 * 8 ^ n * 2) = 12 * 8 ^ (n + 1) := by rw [Nat.pow_succ]; omega
    rw [e] at this
    exact this
theorem P_times' {q : Nat} {row hs : List Int} (h : Row q row) (k : Hs q hs) (n : Nat) (hn : n ≤ 3 + q) : Bds 64 (slopes hs row n) := by
  have hl := h.2.1
  have hq := h.1
  refine (slopes_gr h k n).bds (m := 3) (by rw [slopes_length]; omega) (Nat.pow_pos (by decide)) (by decide) (by decide) ?_ ?_
  · have : 2 ^ n ≤ 2 ^ 4 := Nat.pow_le_pow_right (by decide) (by omega)
    omega
  · have : 8 ^ n ≤ 8 ^ 4 := Nat.pow_le_pow_right (by decide) (by omega)
    omega
-- law
theorem ints10 {ys : List Value} {xs : List Int} (h : IntsAre ys (List.map (fun k' => k') (List.take 10 xs))) : ∃ zs, zs.length ≤ 100 ∧ IntsAre ys zs := ⟨_, by rw [List.length_map, List.length_take]; omega, h⟩
theorem row_make {vs : List Value} {x : Int} {ns : List Int} {q : Nat} (h : IntsAre vs ([x] ++ ns)) (h0 : x ≠ 0) (h1 : -2 ≤ x) (h2 : x ≤ 2) (hl : ns.length = 2 + q) (hb : ∀ x ∈ ns, -2 ≤ x ∧ x ≤ 2) :
    ∃ row, IntsAre vs row ∧ row.length = 3 + q ∧ row.getD 0 0 ≠ 0 ∧ ∀ x ∈ row, -2 ≤ x ∧ x ≤ 2 :=
  ⟨_, h, by simp [hl]; omega, h0, fun y hy => (List.mem_cons.mp hy).elim (fun e => e ▸ ⟨h1, h2⟩) (hb y)⟩
theorem ints_at {vs : List Value} {ns : List Int} {i : Nat} {v : Value} (h : IntsAre vs ns) (e : vs.toArray[i]? = some v) : ∃ t, v = .int (ns.getD i 0) t := by
  have e' : vs[i]? = some v := by simpa using e
  have hi : i < ns.length := by
    rw [← h.length]
    exact (List.getElem?_eq_some_iff.mp e').1
  obtain ⟨t, ht⟩ := h.get i ns[i] (List.getElem?_eq_getElem hi)
  rw [ht] at e'
  cases e'
  exact ⟨t, by simp [List.getD, List.getElem?_eq_getElem hi]⟩
section
variable {prog : Program} {w : World} {A : Around} {E : Value → Shared → Prop} {s : Shared} {a L : Addr} {h₀ : Heap} {news : List (Addr × Obj)} {value slice : Expr} {k : Int} {u t0 t1 t2 t3 : Tok} {n : Nat} {Q : Value → Shared → Prop}
theorem a_list {K : Frag} {led tl : List (Addr × Obj)} {D x : Addr} {ys : List Value} {xs : List Rat} {t u : Tok} {n c : Nat} (h1 : (D, listOf (.ref x :: ys).toArray c) ∈ led) (h2 : (x, tup2 0 1 t u n) ∈ led) (h3 : RatsIn K tl ys xs) (hs : ∀ p ∈ tl, p ∈ led) : ListIn K led D (0 :: xs) :=
  ⟨_, _, h1, RatsIn.cons (RatIn.int h2) (h3.mono hs)⟩
theorem h_list {K : Frag} {led tl : List (Addr × Obj)} {D : Addr} {ys : List Value} {xs : List Rat} {c : Nat} (h1 : (D, listOf ys.toArray c) ∈ led) (h3 : RatsIn K tl ys xs) (hs : ∀ p ∈ tl, p ∈ led) : ListIn K led D xs := ⟨_, _, h1, h3.mono hs⟩
theorem list_add {b x : Addr} {ys : List Value} {m : Str → Option Value} {c c' : Nat} (F : Fr h₀ L s.heap m) (N : News h₀ L s.heap news) (ha : (a, listOf [.ref x].toArray c) ∈ news) (hb : (b, listOf ys.toArray c') ∈ news) (hz : ys.length ≤ 1000)
    (h : ∀ D h', Fr h₀ L h' m → News h₀ L h' ((D, listOf (.ref x :: ys).toArray 0) :: news) → (∀ p ∈ news, p.1 < D) → Q (.ref D) { s with heap := h' }) : wpAny (model prog w) A (binaryOp .Add (.ref a) (.ref b)) Q E s :=
  kmk_add_lit (its := [.ref x].toArray) (its2 := ys.toArray) (zs := .ref x :: ys) F N ⟨_, (N _ ha).1, rfl, _, rfl⟩ ⟨_, (N _ hb).1, rfl, _, rfl⟩ rfl h (by rw [sizeLine_eq]; simp; omega)
theorem pick4 (N : News h₀ L s.heap news) (hm : (a, ({ cls := .type "tuple", data := .seq [.int 1 t0, .int (-1) t1, .int 2 t2, .int (-2) t3].toArray n } : Obj)) ∈ news) (h0 : 0 ≤ k) (hk : k < 4)
    (h : ∀ (x : Int) t, x ≠ 0 → -2 ≤ x → x ≤ 2 → Q (.int x t) s)
    (he : subscripted slice false (.ref a) (.int k u) = operate [.ref a, .int k u] (getItem (.ref a) (.int k u)) := by with_unfolding_all rfl) :
    wpAny (model prog w) A (subscriptTail value slice (.ref a) (.int k u)) Q E s := by
  have ht : IsTup s.heap a [.int 1 t0, .int (-1) t1, .int 2 t2, .int (-2) t3].toArray := ⟨_, (N _ hm).1, rfl, n, rfl⟩
  have hk' : k = 0 ∨ k = 1 ∨ k = 2 ∨ k = 3 := by omega
  rcases hk' with rfl | rfl | rfl | rfl
  · exact item_tupleT ht (by decide) (by decide) (j := 0) rfl rfl (h _ _ (by decide) (by decide) (by decide)) he
  · exact item_tupleT ht (by decide) (by decide) (j := 1) rfl rfl (h _ _ (by decide) (by decide) (by decide)) he
  · exact item_tupleT ht (by decide) (by decide) (j := 2) rfl rfl (h _ _ (by decide) (by decide) (by decide)) he
  · exact item_tupleT ht (by decide) (by decide) (j := 3) rfl rfl (h _ _ (by decide) (by decide) (by decide)) he
end
theorem pack {K : Frag} {h₀ h : Heap} {L : Addr} {p q : Addr × Obj} {led : List (Addr × Obj)} {dA dH dR dN : Addr} {xs ys : List Rat} {row hs : List Int} (N : News h₀ L h led) (hp : p ∈ led) (hq : q ∈ led) (hA : ListIn K led dA xs) (hH : ListIn K led dH ys) (hR : IntsIn led dR row) (hN : IntsIn led dN hs) :
    ∃ X, News h₀ L h (p :: q :: X) ∧ ListIn K X dA xs ∧ ListIn K X dH ys ∧ IntsIn X dR row ∧ IntsIn X dN hs :=
  ⟨led, fun r hr => by
    rcases List.mem_cons.mp hr with rfl | hr
    · exact N _ hp
    · rcases List.mem_cons.mp hr with rfl | hr
      · exact N _ hq
      · exact N _ hr, hA, hH, hR, hN⟩
theorem IntsIn.mono {led led' : List (Addr × Obj)} {l : Addr} {ns : List Int} (h : IntsIn led l ns) (hs : ∀ p ∈ led, p ∈ led') : IntsIn led' l ns := by
  obtain ⟨vs, c, h1, h2⟩ := h
  exact ⟨vs, c, hs _ h1, h2⟩
theorem rat_ne_same {prog : Program} {w : World} {A : Around} {E : Value → Shared → Prop} {s : Shared} {K : Frag} {a b L : Addr} {h₀ : Heap} {m : Str → Option Value} {news news₀ news₁ : List (Addr × Obj)} {x y : Rat} {Q : Value → Shared → Prop}
    (F : Fr h₀ L s.heap m) (X : K.In h₀) (N : News h₀ L s.heap news) (hx : RatIn K news₀ (.ref a) x) (hs : ∀ p ∈ news₀, p ∈ news) (hy : RatIn K news₁ (.ref b) y) (hs' : ∀ p ∈ news₁, p ∈ news) (hu : A.units + 64 < cLine) (hxy : x = y)
    (h : Q (.bool false) s) : wpAny (model prog w) A (compareOp .NotEq (.ref a) (.ref b)) Q E s :=
  rat_ne F X N hx hs hy hs' hu (by rw [decide_eq_true hxy]; exact h)
theorem stop_of {P : Prop} (h : P) : Stop P := h
theorem sub_l {a : Addr × Obj} {A B : List (Addr × Obj)} : ∀ p ∈ a :: A, p ∈ a :: (A ++ B) := fun p hp => by
  rcases List.mem_cons.mp hp with rfl | hp
  · exact List.mem_cons_self ..
  · exact List.mem_cons_of_mem _ (List.mem_append_left _ hp)
theorem sub_r {a : Addr × Obj} {A B : List (Addr × Obj)} : ∀ p ∈ B, p ∈ a :: (A ++ B) := fun p hp => List.mem_cons_of_mem _ (List.mem_append_right _ hp)
theorem sub_m {a : Addr × Obj} {A B : List (Addr × Obj)} : ∀ p ∈ A, p ∈ a :: (A ++ B) := fun p hp => List.mem_cons_of_mem _ (List.mem_append_left _ hp)
theorem sub_mm {a : Addr × Obj} {A B C : List (Addr × Obj)} : ∀ p ∈ A, p ∈ a :: (A ++ B ++ C) := fun p hp => List.mem_cons_of_mem _ (List.mem_append_left _ (List.mem_append_left _ hp))
theorem hs_bits {q : Nat} {hs : List Int} (h : Hs q hs) (i : Nat) : iBits (hs.getD i 0) ≤ 64 := by
  have := getD_mem (abs2 (by decide) h.2) (by decide) i
  exact intBits_le_iff.mpr (Nat.lt_of_le_of_lt this (by decide))
theorem slope0 {hs row : List Int} (i : Nat) (hi : i < row.length) : (((1 + (i : Int)) * hs.getD ((1 : Int) + i).toNat 0 : Int) : Rat) = (slopes hs row 0).getD i 0 := by
  have e : ((1 : Int) + i).toNat = i + 1 := by omega
  rw [e, slopes]
  simp [List.getD, List.getElem?_map, List.getElem?_range hi]
theorem pack2 {K : Frag} {h₀ h : Heap} {L : Addr} {m : Str → Option Value} {led : List (Addr × Obj)} {dT dS dU : Addr} {xs ys zs : List Rat} (F : Fr h₀ L h m) (N : News h₀ L h led) (hT : ListIn K led dT xs) (hS : ListIn K led dS ys) (hU : ListIn K led dU zs) :
    ∃ m0 X, m0 = m ∧ Fr h₀ L h m0 ∧ News h₀ L h X ∧ ListIn K X dT xs ∧ ListIn K X dS ys ∧ ListIn K X dU zs := ⟨m, led, rfl, F, N, hT, hS, hU⟩
theorem words35 : True := by
  k_with_none
  k_with "my memD" => first | exact List.mem_cons_self .. | (refine List.mem_cons_of_mem _ ?_; walk_at "memD")
  k_with "my sub" => first | with_reducible assumption | (refine List.Mem.tail _ ?_; walk_at "sub") | (refine List.mem_append.mpr (Or.inl ?_); walk_at "sub") | (refine List.mem_append.mpr (Or.inr ?_); walk_at "sub")
  k_with "my subs" => (intro pqz hpqz; first | walk_at "sub" | (simp only [List.mem_append, List.mem_cons] at hpqz ⊢; (repeat' (refine Or.elim hpqz (fun hpqz => ?_) (fun hpqz => ?_))) <;> simp only [hpqz, eq_self, true_or, or_true]))
  k_with "my use" => ( (case k1 => k_asm); (case k2 => k_asm); (case k3 => k_asm); (case k4 => k_asm); (case k5 => k_asm); (case kK => first | exact rfl | assumption); (case kd => ktr_room); (case ku => ktr_units))
  k_with "my pyIter ref" => (k_here; refine stop_intro ?_)
  k_with "my subscriptTail" => (k_here; (with_reducible show wpAny _ _ (subscriptTail _ _ (Value.ref _) (Value.int _ _)) _ _ _); k_dflt (refine' list_item ?k3 ?k4 ?k5 ?k7 ?k8 ?k9 ?_ ?k6; (case k4 => with_reducible assumption); (case k3 => k_asm); (case k5 => walk_at "subs"); (case k6 => with_unfolding_all rfl); (case k7 => omega); (case k8 => omega); (case k9 => omega); k_whole); intro b9qz hb9qz)
  k_with "my call builtin:len" => (k_here; (with_reducible show wpAny _ _ (call (Value.builtin "len") [Value.ref _]) _ _ _); k_dflt (refine' list_len ?k3 ?k4 ?k5 ?k7 ?_; (case k4 => with_reducible assumption); (case k3 => k_asm); (case k5 => walk_at "subs"); (case k7 => omega); k_whole); intro _ _)
  k_with "my rats" => first | with_reducible assumption | exact RatIn.mono (by with_reducible assumption) (by walk_at "subs") | exact r0_in | exact r1_in
  k_with "my compareOp NotEq ref ref" => (k_here; (with_reducible show wpAny _ _ (compareOp CmpOp.NotEq (Value.ref _) (Value.ref _)) _ _ _); k_dflt (refine' rat_ne ?k1 ?k2 ?k3 ?k4 ?k5 ?k6 ?k7 ?k8 ?_; (case k4 => with_reducible assumption); (case k6 => first | with_reducible assumption | exact r0_in (news := [])); (case k1 => k_asm); (case k2 => k_asm); (case k3 => k_asm); (case k5 => walk_at "subs"); (case k7 => first | exact List.forall_mem_nil _ | walk_at "subs"); (case k8 => exact units_room9 (by assumption) (by decide)); k_whole))
  k_with "my bd" => first | with_reducible assumption | exact Bd.zero | exact (by with_reducible assumption : Bds _ _) _ | exact Bd.mul (by walk_at "bd") (by walk_at "bd") | exact Bd.add (by walk_at "bd") (by walk_at "bd") | exact Bd.sub (by walk_at "bd") (by walk_at "bd")
  k_with "my bds" => exact Bd.mono (by walk_at "bd") (by omega)
  k_with "my call ref" => (k_here; (with_reducible show wpAny _ _ (call (Value.ref 64) [_, _]) _ _ _); k_dflt (refine' ctr_use (radd_ctr _ _ _ _) ?k1 ?k2 ?k3 ?k4 ?k5 ?kK ?kp ?kd ?ku ?_); walk_at "use"; (case kp => exact ⟨by walk_at "rats", by walk_at "rats", by walk_at "bds", by walk_at "bds"⟩); k_whole; intro r9qz tl9qz h9qz tk9qz F9qz N9qz fr9qz ho9qz; (simp only [List.cons_append, List.nil_append] at N9qz ho9qz); obtain ⟨a9qz, e9qz⟩ := RatIn.isRef ho9qz; subst e9qz; (try k_fold))
  k_with "my call ref" => (k_here; (with_reducible show wpAny _ _ (call (Value.ref 78) [_, _]) _ _ _); k_dflt (refine' ctr_use (rmul_ctr _ _ _ _) ?k1 ?k2 ?k3 ?k4 ?k5 ?kK ?kp ?kd ?ku ?_); walk_at "use"; (case kp => exact ⟨by walk_at "rats", by walk_at "rats", by walk_at "bds", by walk_at "bds"⟩); k_whole; intro r9qz tl9qz h9qz tk9qz F9qz N9qz fr9qz ho9qz; (simp only [List.cons_append, List.nil_append] at N9qz ho9qz); obtain ⟨a9qz, e9qz⟩ := RatIn.isRef ho9qz; subst e9qz; (try k_fold))
  k_with "my ff" => exact ff_n
  k_with "my ff" => (refine ff_c rfl ?_; walk_at "ff")
  k_with "my fg" => (intro yqz hyqz; (repeat' (first | (refine ifn_l (hyqz _ ?m9) ?_; (case m9 => walk_at "fm")) | (refine ifn_r (hyqz _ ?m9) ?_; (case m9 => walk_at "fm")) | fail)); rfl)
  k_with "my fm" => first | with_reducible exact List.mem_cons_self .. | (refine List.mem_cons_of_mem _ ?_; walk_at "fm")
  k_with "my frs" => first | assumption | ((repeat' (refine Fresh.both ?_ ?_)); all_goals (first | assumption | exact Fresh.nil | exact Fresh.anti (by assumption) (by walk_at "subs")))
  k_with "my offs" => first | assumption | ((repeat' (first | refine off_app ?_ ?_ | refine off_cons ?_ ?_)); all_goals (first | assumption | exact off_fresh (by assumption) (by walk_at "memD") | exact off_anti (by assumption) (by walk_at "subs") | exact off_head (by assumption) (by walk_at "memD") | exact Ne.symm (by assumption)))
  k_with "my enterC" => (refine' code_defC ?k1 ?k2 ?k3 ?k4 ?k5 ?kA ?kF ?kK ?k6 ?k7 ?k8 ?k9 ?kB ?kD ?_ ?c2 ?c3 ?c4; (case kA => exact rfl); (case kF => exact rfl); (case kK => assumption); (case k1 => k_asm); (case k2 => k_asm); (case k3 => k_asm); (case k4 => k_asm); (case k5 => k_asm); (case k6 => k_is); (case k7 => k_is); (case k8 => ktr_room); (case k9 => exact BindsTo.of_eq rfl); (case kB => exact rfl); (case kD => decide +kernel); (case c2 => exact rfl); (case c3 => exact rfl); (case c4 => exact rfl); k_whole; intro gpqz Lpqz hpqz tkpqz cellspqz FGpqz Fpqz Npqz Ypqz Bpqz Xpqz Tpqz l1qz; k_cells Ypqz; (try simp only [List.cons_append, List.nil_append] at Npqz); (try dsimp only); (try k_fold))
  k_with "my call ref" => (k_here; (with_reducible show wpAny _ _ (call (Value.ref 120) [_, _, _]) _ _ _); k_dflt (refine' ctr_use (mixed_ctr _ _ _ _ _ _) ?k1 ?k2 ?k3 ?k4 ?k5 ?kK ?kp ?kd ?ku ?_); walk_at "use"; (case kp => walk_at "pre120"); k_whole; intro r9qz tl9qz h9qz tk9qz F9qz N9qz fr9qz ho9qz; (simp only [List.cons_append, List.nil_append] at N9qz); obtain ⟨a9qz, e9qz⟩ := RatIn.isRef ho9qz; subst e9qz; (try k_fold))
  k_with "my call ref" => (k_here; (with_reducible show wpAny _ _ (call (Value.ref 113) [_]) _ _ _); k_dflt (refine' ctr_use (let_ctr _ _) ?k1 ?k2 ?k3 ?k4 ?k5 ?kK ?kp ?kd ?ku ?_); walk_at "use"; (case kp => exact ⟨by walk_at "rats", by assumption⟩); k_whole; intro r9qz tl9qz h9qz tk9qz F9qz N9qz fr9qz ho9qz; (simp only [List.cons_append, List.nil_append] at N9qz); subst ho9qz; (try k_fold))
  k_with "my lists" => first | with_reducible assumption | exact ListIn.mono (by with_reducible assumption) (by walk_at "subs")
  k_with "my pre120" => exact ⟨by walk_at "lists", by walk_at "lists", by omega, by omega, by omega, by omega, by assumption, by assumption⟩
  k_with "my call ref" => (k_here; (with_reducible show wpAny _ _ (call (Value.ref 71) [_, _]) _ _ _); k_dflt (refine' ctr_use (rsub_ctr _ _ _ _) ?k1 ?k2 ?k3 ?k4 ?k5 ?kK ?kp ?kd ?ku ?_); walk_at "use"; (case kp => exact ⟨by walk_at "rats", by walk_at "rats", by walk_at "bds", by walk_at "bds"⟩); k_whole; intro r9qz tl9qz h9qz tk9qz F9qz N9qz fr9qz ho9qz; (simp only [List.cons_append, List.nil_append] at N9qz); obtain ⟨a9qz, e9qz⟩ := RatIn.isRef ho9qz; subst e9qz; (try k_fold))
  k_with "my call ref" => (k_here; (with_reducible show wpAny _ _ (call (Value.ref 85) [_, _]) _ _ _); k_dflt (refine' ctr_use (rdiv_ctr _ _ _ _) ?k1 ?k2 ?k3 ?k4 ?k5 ?kK ?kp ?kd ?ku ?_); walk_at "use"; (case kp => exact ⟨by walk_at "rats", by walk_at "rats", by walk_at "bds", by walk_at "bds", by assumption⟩); k_whole; intro r9qz tl9qz h9qz tk9qz F9qz N9qz fr9qz ho9qz; (simp only [List.cons_append, List.nil_append] at N9qz); obtain ⟨a9qz, e9qz⟩ := RatIn.isRef ho9qz; subst e9qz; (try k_fold))
  k_with "my compareOp Eq ref ref" => (k_here; (with_reducible show wpAny _ _ (compareOp CmpOp.Eq (Value.ref _) (Value.ref _)) _ _ _); k_dflt (refine' rat_eq ?k1 ?k2 ?k3 ?k4 ?k5 ?k6 ?k7 ?k8 ?_; (case k4 => with_reducible assumption); (case k6 => first | with_reducible assumption | exact r0_in (news := [])); (case k1 => k_asm); (case k2 => k_asm); (case k3 => k_asm); (case k5 => walk_at "subs"); (case k7 => first | exact List.forall_mem_nil _ | walk_at "subs"); (case k8 => exact units_room9 (by assumption) (by decide)); k_whole))
  k_with "my call builtin:list.append" => (k_here; (with_reducible show wpAny _ _ (call (Value.builtin _) [Value.ref _, _]) _ _ _); k_dflt (refine' append_K ?k1 ?k2 ?k3 ?_ ?z; (case k1 => k_asm); (case k2 => k_asm); (case k3 => first | exact Upd.head (by walk_at "offs") | exact Upd.tail (by first | assumption | exact Ne.symm (by assumption)) (Upd.head (by walk_at "offs"))); (case z => assumption); k_whole); intro hpqz Fpqz Npqz; (simp only [List.push_toArray] at Npqz); (try k_sweep))
  k_with "my call ref" => (k_here; (with_reducible show wpAny _ _ (call (Value.ref 125) [_, _]) _ _ _); k_dflt (refine' ctr_use (smul_ctr _ _ _ _) ?k1 ?k2 ?k3 ?k4 ?k5 ?kK ?kp ?kd ?ku ?_); walk_at "use"; (case kp => exact ⟨by walk_at "lists", by walk_at "lists", by first | assumption | omega, by first | assumption | omega, by assumption, by assumption, by assumption⟩); k_whole; intro r9qz tl9qz h9qz tk9qz F9qz N9qz fr9qz ho9qz; (simp only [List.cons_append, List.nil_append] at N9qz); obtain ⟨l9qz, e9qz, ho9qz⟩ := ho9qz; subst e9qz; (try k_fold))
  k_with "my call ref" => (k_here; (with_reducible show wpAny _ _ (call (Value.ref 139) [_, Value.ref 49]) _ _ _); k_dflt (refine' ctr_use (need_begin_ctr _ _) ?k1 ?k2 ?k3 ?k4 ?k5 ?kK ?kp ?kd ?ku ?_); walk_at "use"; (case kp => exact ⟨by walk_at "lists", by omega, by omega, by assumption⟩); k_whole; intro r9qz tl9qz h9qz tk9qz F9qz N9qz fr9qz ho9qz; (try simp only [List.cons_append, List.nil_append] at N9qz); subst ho9qz; (try k_fold))
  k_with "my call ref" => (k_here; (with_reducible show wpAny _ _ (call (Value.ref 106) [_, _]) _ _ _); refine stop_intro ?_)
  k_with "my subscriptTail Name Slice ref ref" => (k_here; (with_reducible show wpAny _ _ (subscriptTail _ (PySem.Expr.Slice _ _ none _) (Value.ref _) (Value.ref _)) _ _ _); k_dflt (refine' list_slice ?sF ?sN ?sx ?ss ?sp ?sq ?sz ?_ ?su ?stt; (case sx => with_reducible assumption); (case sF => k_asm); (case sN => k_asm); (case ss => walk_at "subs"); (case sp => kmk_part); (case sq => kmk_part); (case su => with_unfolding_all rfl); (case stt => kmk_pure); (case sz => omega)); intro Dpqz hpqz wspqz Fpqz Npqz l1qz hwspqz; (have hws9qz := ListIn.ofHead (D := Dpqz) (n := 0) hwspqz); (try k_sweep))
  k_with "my setItem ref int" => (k_here; (with_reducible show wpAny _ _ (setItem (Value.ref _) (Value.int _ _) (Value.ref _)) _ _ _); refine stop_intro ?_)
  k_with "my rats" => exact RatIn.int (List.Mem.head _)
  k_with "my call ref" => (k_here; (with_reducible show wpAny _ _ (call (Value.ref 132) [_]) _ _ _); k_dflt (refine' ctr_use (sinverse_ctr _ _) ?k1 ?k2 ?k3 ?k4 ?k5 ?kK ?kp ?kd ?ku ?_); walk_at "use"; (case kp => exact ⟨by walk_at "lists", by omega, by omega, by assumption, by assumption, by assumption⟩); k_whole; intro r9qz tl9qz h9qz tk9qz F9qz N9qz fr9qz ho9qz; (simp only [List.cons_append, List.nil_append] at N9qz); obtain ⟨l9qz, e9qz, ho9qz⟩ := ho9qz; subst e9qz; (try k_fold))
  k_with "my binaryOp FloorDiv int int" => (k_here; (refine' floordiv_int ?kne ?_ ?kroom); (case kne => omega); (case kroom => exact Or.inr (PylongRoom.of (PySem.Heap.NoLimit.keeps (Top.nolimit (by assumption)) (Fr.keep (by assumption))) (depth_room (by assumption) (by decide)))); k_whole)
  k_with "my exec While Compare cons nil" => (k_here; refine stop_intro ?_)
  k_with "my subscriptTail" => (k_here; (with_reducible show wpAny _ _ (subscriptTail _ _ (Value.ref _) (Value.int 0 _)) _ _ _); k_dflt (refine' rat_item0 ?k1 ?k2 ?k3 ?k4 ?k5 ?_ ?k6; (case k4 => with_reducible assumption); (case k1 => k_asm); (case k2 => k_asm); (case k3 => k_asm); (case k5 => walk_at "subs"); (case k6 => with_unfolding_all rfl); k_whole); intro _)
  k_with "my subscriptTail" => (k_here; (with_reducible show wpAny _ _ (subscriptTail _ _ (Value.ref _) (Value.int 1 _)) _ _ _); k_dflt (refine' rat_item1 ?k1 ?k2 ?k3 ?k4 ?k5 ?_ ?k6; (case k4 => with_reducible assumption); (case k1 => k_asm); (case k2 => k_asm); (case k3 => k_asm); (case k5 => walk_at "subs"); (case k6 => with_unfolding_all rfl); k_whole); intro _)
  k_with "my unpackItems ref" => (k_here; (with_reducible show wpAny _ _ (unpackItems (Value.ref _) 2 none) _ _ _); k_dflt (refine' rat_unpack ?k1 ?k2 ?k3 ?k4 ?k5 ?k6 ?_; (case k4 => with_reducible assumption); (case k1 => k_asm); (case k2 => k_asm); (case k3 => k_asm); (case k5 => walk_at "subs"); (case k6 => exact rfl); k_whole); intro hpqz tpqz upqz Fpqz Npqz; (try k_sweep))
  k_with "my call ref" => (k_here; (with_reducible show wpAny _ _ (call (Value.ref 167) [_, _]) _ _ _); k_dflt (refine' ctr_use (lowest_ctr _ _ _ _) ?k1 ?k2 ?k3 ?k4 ?k5 ?kK ?kp ?kd ?ku ?_); walk_at "use"; (case kp => first | assumption | exact Int.mul_ne_zero (Int.mul_ne_zero (den_ne _) (den_ne _)) (den_ne _)); k_whole; intro r9qz tl9qz h9qz tk9qz F9qz N9qz fr9qz ho9qz; (simp only [List.cons_append, List.nil_append] at N9qz); obtain ⟨a9qz, e9qz⟩ := RatIn.isRef ho9qz; subst e9qz; (try k_fold))
  k_with "my assign Tuple" => (k_here; (with_reducible show wpAny _ _ (assign (Expr.Tuple _ _ _) _ (Value.ref _)) _ _ _); k_dflt (refine' rat_assign ?k1 ?k2 ?k3 ?k4 ?k5 ?k6 ?k7 ?k8 ?_; (case k4 => with_reducible assumption); (case k1 => k_asm); (case k2 => k_asm); (case k3 => k_asm); (case k5 => walk_at "subs"); (case k6 => exact rfl); (case k7 => exact rfl); (case k8 => exact rfl); k_whole); intro hpqz tpqz upqz Fpqz Npqz; (try k_sweep))
  k_with "my subscriptTail" => (k_here; (with_reducible show wpAny _ _ (subscriptTail _ _ (Value.ref _) (Value.int _ _)) _ _ _); k_dflt (refine' int_item ?k3 ?k4 ?k5 ?k7 ?k8 ?k9 ?_ ?k6; (case k4 => with_reducible assumption); (case k3 => k_asm); (case k5 => walk_at "subs"); (case k6 => with_unfolding_all rfl); (case k7 => omega); (case k8 => omega); (case k9 => omega); k_whole); intro _)
  k_with "my call builtin:len" => (k_here; (with_reducible show wpAny _ _ (call (Value.builtin "len") [Value.ref _]) _ _ _); k_dflt (refine' int_len ?k3 ?k4 ?k5 ?k7 ?_; (case k4 => with_reducible assumption); (case k3 => k_asm); (case k5 => walk_at "subs"); (case k7 => omega); k_whole); intro _ _)
  k_with "my call ref" => (k_here; (with_reducible show wpAny _ _ (call (Value.ref 160) [_, _]) _ _ _); refine stop_intro ?_)
  k_with "my offp" => (intro pqz hpqz; (simp only [List.nil_append, List.cons_append, List.mem_cons, List.not_mem_nil, or_false] at hpqz); (repeat' (refine Or.elim hpqz (fun hpqz => ?_) (fun hpqz => ?_))) <;> (subst hpqz; show (_ : Nat) ≠ _; omega))
  k_with "my draw" => ((case k1 => k_asm); (case k2 => k_asm); (case k3 => k_asm); (case k5 => k_asm); (case kK => first | exact rfl | assumption); (case kd => ktr_room); (case ku => ktr_units); (case ko => first | (simp only [List.cons_append, List.nil_append]; with_reducible assumption) | walk_at "offp"); (case kl => with_reducible assumption); (case kh0 => omega); (case kh9 => omega); (case km => omega); (case km9 => omega); k_whole; intro r9qz t9qz u9qz h9qz tk9qz F9qz N9qz r90qz r99qz; (simp only [List.cons_append, List.nil_append] at N9qz); (try k_fold))
  k_with "my subscriptTail" => (k_here; (with_reducible show wpAny _ _ (subscriptTail (PySem.Expr.Tuple _ _ _) _ (Value.ref _) (Value.int _ _)) _ _ _); k_dflt (refine' pick4 ?k4 ?km ?k0 ?k9 ?_ ?k6; (case k4 => k_asm); (case km => k_mem); (case k0 => omega); (case k9 => omega); (case k6 => with_unfolding_all rfl); k_whole); intro x9qz _ hx0qz hx1qz hx2qz)
  k_with "my eval ListComp" => (k_here; k_dflt (refine LCg.ListComp_U (F₀ := by k_asm) (by with_unfolding_all rfl) (by decide) (by rfl) (by decide) (by rfl) ?_); k_dflt lcg_toSrc)
  k_with "my exec Assign cons ListComp" => (k_here; k_dflt (refine LCg.Assign_ListComp_U (F₀ := by k_asm) (by rfl) (by with_unfolding_all rfl) (by with_unfolding_all rfl) (by decide) (by rfl) (by decide) (by rfl) (by rfl) (by rfl) ?_); k_dflt lcg_toSrc)
  k_with "my CompSrc" => (k_here; (fail_if_success (with_reducible show LCg.CompSrc _ _ _ _ _ _ _ (PySem.Expr.Call _ _ _ _) _ _ _ _ _ _)); refine stop_intro ?_)
  k_with "my binaryOp Add ref ref" => (k_here; (with_reducible show wpAny _ _ (binaryOp _ (Value.ref _) (Value.ref _)) _ _ _); k_dflt (refine' list_add ?F ?N ?a ?b ?z ?_; (case F => k_asm); (case N => k_asm); (case a => k_mem); (case b => k_mem); (case z => omega)); intro Dpqz hpqz Fpqz Npqz l1qz; (try k_lt l1qz); (try k_sweep))
  k_with "my call ref" => (k_here; (with_reducible show wpAny _ _ (call (Value.ref 153) [_]) _ _ _); refine stop_intro ?_)
  k_with "my call ref" => (k_here; (with_reducible show wpAny _ _ (call (Value.ref 146) [_, _]) _ _ _); refine stop_intro ?_)
  k_with "my call ref" => (k_here; (with_reducible show wpAny _ _ (call (Value.ref 181) [_]) _ _ _); refine stop_intro ?_)
  k_with "my call ref" => (k_here; (with_reducible show wpAny _ _ (call (Value.ref 174) [_, _]) _ _ _); refine stop_intro ?_)
  k_with "my compareOp NotEq ref ref" => (k_here; (with_reducible show wpAny _ _ (compareOp CmpOp.NotEq (Value.ref _) (Value.ref _)) _ _ _); refine stop_intro ?_)
  trivial
set_option maxHeartbeats 8000000 in
theorem law0 : PySem.Challenge.rw_sa0082_01.Holds := hd (by
  w_top off
  w_strict k_go0
  all_goals (try k_fold)
  rename World => wd
  k_steps
  unfold Stop
  rename IntsAre _ (List.map _ (List.take 10 _)) => hI8
  rename News _ _ _ _ => N2
  obtain ⟨zs, hzl, hI9⟩ := ints10 hI8
  have hC := fun (C : Addr) post (h : (C, LCg.lst _) ∈ post) => (⟨_, _, h, hI9⟩ : IntsIn post C zs)
  k_dflt (refine' draw_ctr (xs := zs) (k := 0) (many := 2) [] ?k1 ?k2 ?k3 ?kN ?k5 ?kK ?kC ?ko ?kl ?kh0 ?kh9 ?km ?km9 ?kd ?ku ?_; (case kN => k_asm); (case kC => exact hC _ _ (by walk_at "memD")); walk_at "draw")
  rename (_ : Int) < 2 => hr2
  obtain ⟨q, eq9, hq⟩ := toN hr2 (by assumption)
  subst eq9
  clear N2
  k_steps
  unfold Stop
  k_dflt (refine' draw_ctr (xs := zs) (k := 0 + 1) (many := 4) [_] ?k1 ?k2 ?k3 ?kN ?k5 ?kK ?kC ?ko ?kl ?kh0 ?kh9 ?km ?km9 ?kd ?ku ?_; (case kN => k_asm); (case kC => exact hC _ _ (by walk_at "memD")); walk_at "draw")
  k_steps
  unfold Stop
  rename IsRange _ _ _ _ _ _ _ _ => R2
  rename News _ _ _ _ => N2
  refine LCg.CompSrc.range (n := 2 + q) rfl (by assumption) N2 R2 (small_one (by omega) (by omega) (by omega) (by omega)) (by rw [rangeSize_nat]; omega) (by rw [sizeLine_eq]; omega) fun g => ?_
  refine draw_comp (k := 0 + 1 + 1) (lo := -2) (hi := 2) [_, _] ?_ ?_ ?_
  · walk_at "offp"
  · rintro i I oI C oC D ys t m₂ h tk u E' hi hNs hm F1 N1 hoff
    clear N2
    simp only [List.cons_append, List.nil_append] at N1 hoff
    k_steps
    unfold Stop
    k_dflt (refine' draw_ctr (xs := zs) (k := 0 + 1 + 1 + i) (many := 5) [_, _, _, _, _] ?k1 ?k2 ?k3 ?kN ?k5 ?kK ?kC ?ko ?kl ?kh0 ?kh9 ?km ?km9 ?kd ?ku ?_; (case kN => k_asm); (case kC => exact hC _ _ (by walk_at "memD")); walk_at "draw")
    k_steps
    exact DEnd.mk (by assumption) (by assumption) (by omega) (by omega)
  rintro u ys ns hns hnl hnb
  clear N2
  show LCg.FinE _ _ _ _ _ _ (_ :: _ :: _ :: _)
  k_steps
  unfold Stop
  rename IsRange _ _ _ _ _ _ _ _ => R2
  rename News _ _ _ _ => N2
  rename IntsAre _ ([_] ++ ns) => hrow9
  obtain ⟨row, hrowI, hrl, hr0, hrb⟩ := row_make hrow9 (by assumption) (by assumption) (by assumption) hnl hnb
  refine LCg.CompSrc.range (n := 4 + q) rfl (by assumption) N2 R2 (small_one (by omega) (by omega) (by omega) (by omega)) (by rw [rangeSize_nat]; omega) (by rw [sizeLine_eq]; omega) fun g => ?_
  refine draw_comp (k := 0 + 1 + 1 + (2 + q : Nat)) (lo := -3) (hi := 3) [_, _, _, _] ?_ ?_ ?_
  · walk_at "offp"
  · rintro i I oI C oC D ys t m₂ h tk u E' hi hNs hm F1 N1 hoff
    clear N2
    simp only [List.cons_append, List.nil_append] at N1 hoff
    k_steps
    unfold Stop
    k_dflt (refine' draw_ctr (xs := zs) (k := 0 + 1 + 1 + (2 + q : Nat) + i) (many := 7) [_, _, _, _, _, _, _] ?k1 ?k2 ?k3 ?kN ?k5 ?kK ?kC ?ko ?kl ?kh0 ?kh9 ?km ?km9 ?kd ?ku ?_; (case kN => k_asm); (case kC => exact hC _ _ (by walk_at "memD")); walk_at "draw")
    k_steps
    exact DEnd.mk (by assumption) (by assumption) (by omega) (by omega)
  rintro u2 ys2 hs hhs hhl hhb
  clear N2
  show LCg.FinE _ _ _ _ _ _ (_ :: _ :: _ :: _ :: _ :: _)
  k_steps
  unfold Stop
  rename News _ _ _ _ => N2
  have hwz : ∀ {vs : List Value} {n : Nat}, vs.length = n → n ≤ 100 → vs.toArray.size ≤ sizeLine := fun e h => by rw [sizeLine_eq, List.size_toArray]; omega
  refine LCg.CompSrc.ledger rfl (by assumption) N2 (by k_mem) (hwz hrowI.length (by omega)) fun g => ?_
  refine rat_comp (K := hd.heap_39 wd.params) (fun i => row.getD i 0) _ (fun tl => Or.inr ⟨_, List.mem_append_left _ (by k_mem), rfl, _, rfl⟩) ?_ ?_
  · rintro i v I oI C oC D ys m₂ h tk tl E' hi hP hNs hm F1 N1
    obtain ⟨t, rfl⟩ := ints_at hrowI hP
    clear N2
    simp only [List.cons_append, List.nil_append] at N1
    k_steps
    exact TEnd.mk (by assumption) (by assumption) (by first | assumption | ktn_lt)
  rintro tl1 ys3 hfr1 hrat1
  clear N2
  simp only [List.cons_append, List.nil_append, List.append_assoc]
  rw [List.size_toArray, hrowI.length] at hrat1
  have hrat1' := hrat1.ints
  have hy3 := hrat1.1
  k_steps
  unfold Stop
  rename News _ _ _ _ => N2
  refine LCg.CompSrc.ledger rfl (by assumption) N2 (by k_mem) (hwz hhs.length (by omega)) fun g => ?_
  refine rat_comp (K := hd.heap_39 wd.params) (fun i => hs.getD i 0) _ (fun tl => Or.inr ⟨_, List.mem_append_left _ (by k_mem), rfl, _, rfl⟩) ?_ ?_
  · rintro i v I oI C oC D ys m₂ h tk tl E' hi hP hNs hm F1 N1
    obtain ⟨t, rfl⟩ := ints_at hhs hP
    clear N2
    simp only [List.cons_append, List.nil_append] at N1
    k_steps
    exact TEnd.mk (by assumption) (by assumption) (by first | assumption | ktn_lt)
  rintro tl2 ys4 hfr2 hrat2
  clear N2
  simp only [List.cons_append, List.nil_append, List.append_assoc]
  rw [List.size_toArray, hhs.length] at hrat2
  have hrat2' := hrat2.ints
  have hy4 := hrat2.1
  k_steps
  unfold Stop
  (repeat ((with_reducible rename (_ < _) ∧ _ => hz); clear hz))
  (repeat ((with_reducible rename (_ ≠ _) ∧ _ => hz); clear hz))
  have hR : Row q row := ⟨by omega, hrl, hr0, hrb⟩
  have hH : Hs q hs := ⟨hhl, hhb⟩
  rename News _ _ _ _ => N2
  obtain ⟨X, N3, hpA, hpH, hpR, hpN⟩ := pack (K := hd.heap_39 wd.params) N2 (.tail _ (.tail _ (.tail _ (.tail _ (.tail _ (.tail _ (.tail _ (.tail _ (.tail _ (.tail _ (.tail _ (.tail _ (.tail _ (.tail _ (List.Mem.head _))))))))))))))) (.tail _ (.tail _ (.tail _ (.tail _ (.tail _ (.tail _ (.tail _ (.tail _ (.tail _ (.tail _ (.tail _ (.tail _ (.tail _ (.tail _ (.tail _ (List.Mem.head _)))))))))))))))) (a_list (by k_mem) (by k_mem) hrat1' (by walk_at "subs")) (h_list (by k_mem) hrat2' (by walk_at "subs")) ⟨_, _, by k_mem, hrowI⟩ ⟨_, _, by k_mem, hhs⟩
  clear N2 hrat1 hrat2 hrat1' hrat2' hfr1 hfr2 hhs hrowI hrow9 hns
  k_dflt (refine' ctr_use (sreverse_ctr _ (0 :: ratsOf row)) ?k1 ?k2 ?k3 ?k4 ?k5 ?kK ?kp ?kd ?ku ?_); walk_at "use"; (case kp => exact ⟨hpA.mono (by walk_at "subs"), P_rev' hR⟩); k_whole
  intro r9 tl9 h9 tk9 F9 N9 fr9 ho9
  simp only [List.cons_append, List.nil_append] at N9
  obtain ⟨l9, e9, ho9⟩ := ho9
  subst e9
  try k_fold
  k_steps
  unfold Stop
  k_dflt (refine' ctr_use (scompose_ctr _ _ (ratsOf hs) (revL (0 :: ratsOf row)) (4 + q)) ?k1 ?k2 ?k3 ?k4 ?k5 ?kK ?kp ?kd ?ku ?_); walk_at "use"; (case kp => exact ⟨hpH.mono (by walk_at "subs"), ho9.mono (by walk_at "subs"), P_comp' hR hH⟩); k_whole
  intro r8 tl8 h8 tk8 F8 N8 fr8 ho8
  simp only [List.cons_append, List.nil_append] at N8
  obtain ⟨l8, e8, ho8⟩ := ho8
  subst e8
  try k_fold
  have hct : (compTo (ratsOf hs) (revL (0 :: ratsOf row)) (4 + q) (4 + q)).length = 4 + q := compTo_length _ _ _ (by rw [revL_length, List.length_cons, ratsOf_length]; omega) _
  have hhl2 : (ratsOf hs).length = 4 + q := by rw [ratsOf_length, hhl]
  k_steps
  unfold Stop
  k_dflt (refine' rat_ne_same ?k1 ?k2 ?k3 ?k4 ?k5 ?k6 ?k7 ?k8 ?kq ?_; (case k4 => with_reducible assumption); (case k6 => with_reducible assumption); (case k1 => k_asm); (case k2 => k_asm); (case k3 => k_asm); (case k5 => walk_at "subs"); (case k7 => walk_at "subs"); (case k8 => first | ktr_units | decide); (case kq => exact P_eq0' hR hH); k_whole)
  k_steps
  unfold Stop
  rename IsRange _ _ _ _ _ _ _ _ => R2
  rename News _ _ _ _ => N2
  refine LCg.CompSrc.range (n := 3 + q) rfl (by assumption) N2 R2 (small_one (by omega) (by omega) (by omega) (by omega)) (by rw [rangeSize_nat]; omega) (by rw [sizeLine_eq]; omega) fun g => ?_
  refine rat_comp (K := hd.heap_39 wd.params) (fun i => (1 + (i : Int)) * hs.getD ((1 : Int) + i).toNat 0) _ (fun tl => trivial) ?_ ?_
  · rintro i v I oI C oC D ys m₂ h tk tl E' hi hP hNs hm F1 N1
    obtain ⟨t, rfl⟩ := hP
    clear N2
    have hb1 := hs_bits hH ((1 : Int) + i).toNat
    simp only [List.cons_append, List.nil_append] at N1
    k_steps
    exact TEnd.mk (by assumption) (by assumption) (by first | assumption | ktn_lt)
  rintro tl5 ys5 hfr5 hrat5
  clear N2
  simp only [List.cons_append, List.nil_append]
  have hsl := hrat5.rats ((slopes_length hs row 0).trans hrl) (fun i hi => slope0 i (by omega))
  k_steps
  unfold Stop
  k_dflt (refine' ctr_use (under_ctr _ row) ?k1 ?k2 ?k3 ?k4 ?k5 ?kK ?kp ?kd ?ku ?_); walk_at "use"; (case kp => exact ⟨hpR.mono (by walk_at "subs"), P_under' hR⟩); k_whole
  intro r7 tl7 h7 tk7 F7 N7 fr7 ho7
  simp only [List.cons_append, List.nil_append] at N7
  obtain ⟨l7, e7, ho7⟩ := ho7
  subst e7
  try k_fold
  k_steps
  unfold Stop
  rename IsRange _ _ _ _ _ _ _ _ => R2
  rename Fr _ _ _ _ => F2
  rename News _ _ _ _ => N2
  obtain ⟨m0, Y, em0, F3, N3, hyT, hyS, hyU⟩ := pack2 (K := hd.heap_39 wd.params) F2 N2 (ho8.mono (by walk_at "subs")) (h_list (by k_mem) hsl (by walk_at "subs")) (ho7.mono (by walk_at "subs"))
  clear F2 N2
  have hil : (invL (ratsOf row) row.length).length = 3 + q := by rw [invL_length]; exact hrl
  refine for_range (n := 3 + q) (fun i m₁ n₁ => ∃ S u tl, m₁ = (fun y => if y = Str.ofString "n" then u else if y = Str.ofString "slope" then some (.ref S) else m0 y) ∧ n₁ = Y ++ tl ∧ Fresh Y tl ∧ ListIn (hd.heap_39 wd.params) (Y ++ tl) S (slopes hs row i)) rfl (by assumption) (small_one (by omega) (by omega) (by omega) (by omega)) (by rw [rangeSize_nat]; omega) F3 N3 ?_ ?_ ?_
  · subst em0
    exact ⟨_, none, [], map_ext [Str.ofString "n", Str.ofString "slope"] (by walk_at "ff") (by walk_at "fg"), by rw [List.append_nil], Fresh.nil, by rw [List.append_nil]; exact hyS⟩
  · rintro i ti m₁ n₁ h tk I it hi ⟨S, u, tl, rfl, rfl, hfr, hS⟩ hit hoff F1 N1
    intro Rz hend
    subst em0
    clear F3 N3
    have hsl1 : (slopes hs row i).length = 3 + q := (slopes_length hs row i).trans hrl
    have hsl2 : (slopes hs row (i + 1)).length = 3 + q := (slopes_length hs row (i + 1)).trans hrl
    k_steps
    refine stop_of ?_
    k_dflt (refine' ctr_use (times_ctr _ _ (slopes hs row i) (invL (ratsOf row) row.length)) ?k1 ?k2 ?k3 ?k4 ?k5 ?kK ?kp ?kd ?ku ?_); walk_at "use"; (case kp => exact ⟨hS.mono fun p hp => List.mem_cons_of_mem _ hp, hyU.mono sub_m, by omega, by omega, P_times' hR hH i (by omega), P_inv' hR⟩); k_whole
    intro r6 tl6 h6 tk6 F6 N6 fr6 ho6
    simp only [List.cons_append, List.nil_append] at N6
    obtain ⟨l6, e6, ho6⟩ := ho6
    subst e6
    try k_fold
    replace ho6 : ListIn (hd.heap_39 wd.params) tl6 l6 (slopes hs row (i + 1)) := ho6
    obtain ⟨hb1, hb2⟩ := P_times' hR hH (i + 1) (by omega) ((1 : Int) + i - 1).toNat
    have hne : (((slopes hs row (i + 1)).getD ((1 : Int) + i - 1).toNat 0).den : Int) * (1 + i) ≠ 0 := Int.mul_ne_zero (den_ne _) (by omega)
    have e1 : ((1 : Int) + i).toNat = i + 1 := by omega
    have e2 : ((1 : Int) + i - 1).toNat = i := by omega
    have heq : (compTo (ratsOf hs) (revL (0 :: ratsOf row)) (4 + q) (4 + q)).getD ((1 : Int) + i).toNat 0 = Rat.divInt ((slopes hs row (i + 1)).getD ((1 : Int) + i - 1).toNat 0).num (((slopes hs row (i + 1)).getD ((1 : Int) + i - 1).toNat 0).den * (1 + (i : Int))) := by
      rw [e1, e2]
      exact P_eq' hR hH i hi
    k_steps
    refine stop_of ?_
    rename Fresh _ _ => fr9
    k_dflt (refine' rat_ne_same ?k1 ?k2 ?k3 ?k4 ?k5 ?k6 ?k7 ?k8 ?kq ?_; (case k4 => with_reducible assumption); (case k6 => with_reducible assumption); (case k1 => k_asm); (case k2 => k_asm); (case k3 => k_asm); (case k5 => exact sub_l); (case k7 => exact sub_r); (case k8 => first | ktr_units | decide); (case kq => exact heq); k_whole)
    k_steps
    rename Fr _ _ _ _ => F8
    rename News _ _ _ _ => N8
    exact hend _ _ _ _ F8 N8 (off_app (off_app hoff (off_fresh fr6 (List.mem_cons_self ..))) (off_fresh fr9 (List.mem_cons_self ..))) ⟨_, _, _, map_ext [Str.ofString "n", Str.ofString "slope"] (by walk_at "ff") (by walk_at "fg"), app3, Fresh.both (Fresh.both hfr (Fresh.anti fr6 sub_m)) (Fresh.anti fr9 sub_mm), ho6.mono fun p hp => List.mem_append_right _ (List.mem_append_left _ (List.mem_append_right _ hp))⟩
  · rintro m₁ n₁ h tk ⟨S, u, tl, rfl, rfl, hfr, hS⟩ F1 N1
    subst em0
    clear F3 N3
    k_steps)
theorem words36 : True := by
  k_with_none
  trivial
end Mine
theorem PySem.Challenge.cw_sa0082_01_holds : PySem.Challenge.rw_sa0082_01.Holds := by
  exact Mine.law0
