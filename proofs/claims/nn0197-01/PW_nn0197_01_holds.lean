import PyProof.Rows.All
import Wide.All
import OpenK.AllK
import Wide.FinOn
import PySem.Challenge.RW_nn0197_01
open PySem PySem.W PyProof.Rows PySem.Calls
set_option Elab.async false
set_option compiler.extract_closed false

namespace Mine
section THead1

set_option maxRecDepth 100000 in
set_option maxHeartbeats 8000000 in
open_top hd for PySem.Challenge.rw_nn0197_01
end THead1
end Mine

namespace Mine
section TBaseN

def Tag (_ : OpenLaw) (_ : Params → Frag) (P : Prop) : Prop := P

/-- a contract of a call -/
def Cal (w : World) (f : Addr) (vs : List Value) (news : List (Addr × Obj)) (dN uN : Nat) (Ret : Value → List (Addr × Obj) → Prop) : Prop :=
  ∀ (p : Program) (loose : List Str) (mean : ExcName → Option Value) (mg mb : Str → Option Value) (dp un : Nat) (gd : Option (List Code)) (cn : Str) (cs : Scope) (a : Addr) (ccd : Value) (cl : List (Str × Addr)) (outer : List Env) (A₀ : Around) (base h₀ : Heap) (L : Addr) (m : Str → Option Value) (s : Shared) (Q E : Value → Shared → Prop),
    Below A₀ base outer h₀ → Fr h₀ L s.heap m → (hd.heap_39 w.params).In h₀ → News h₀ L s.heap news → Top p loose mean mg mb h₀ → cs.kind = .function → dp + dN < recursionLimit → un + uN < cLine →
    (∀ (r : Value) (news' : List (Addr × Obj)) (h' : Heap) (tk' : Nat), Fr h₀ L h' m → News h₀ L h' news' → Ret r news' → Q r { s with heap := h', toks := tk' }) →
    wpAny (model PySem.Challenge.rw_nn0197_01.row.prog w) (ktrTop dp un gd cn cs L a ccd cl outer) (call (.ref f) vs) Q E s
end TBaseN
end Mine

namespace Mine
section TDrawNW

section
variable {prog : Program} {w : World} {A : Around} {E : Value → Shared → Prop} {s : Shared} {a b n : Int} {t u : Tok} {Q : Value → Shared → Prop}
theorem mod_hide (hb : 0 < b) (h : ∀ k : Int, 0 ≤ k → k < b → Q (.int k s.toks) { s with toks := s.toks + 1 }) :
    wpAny (model prog w) A (binaryOp .Mod (.int a t) (.int b u)) Q E s :=
  mod_int' (by omega) (h _ (Int.fmod_nonneg_of_pos a hb) (Int.fmod_lt_of_pos a hb))
theorem fdiv_hide (ha : 0 ≤ a) (hb : 0 < b) (hb2 : b < 1000000) (h : ∀ k : Int, 0 ≤ k → k ≤ a → Q (.int k s.toks) { s with toks := s.toks + 1 }) :
    wpAny (model prog w) A (binaryOp .FloorDiv (.int a t) (.int b u)) Q E s := by
  refine floordiv_int (by omega) (h _ ?_ ?_) (.inl (PyProof.noPylong_small (by omega)))
  · exact Int.fdiv_nonneg ha (by omega)
  · rw [Int.fdiv_eq_ediv_of_nonneg _ (by omega)]; exact Int.ediv_le_self _ ha
theorem mul_hide (ha : 0 ≤ a) (ha2 : a < 2147483648) (hb : 0 ≤ b) (hb2 : b < 4194304) (h : ∀ k : Int, 0 ≤ k → k < 9007199254740992 → Q (.int k s.toks) { s with toks := s.toks + 1 }) :
    wpAny (model prog w) A (binaryOp .Mult (.int a t) (.int b u)) Q E s := by
  refine mul_int (h _ (Int.mul_nonneg ha hb) ?_) (IntMulOk.of_left ?_)
  · have : a * b ≤ 2147483647 * 4194303 := Int.mul_le_mul (by omega) (by omega) hb (by omega)
    omega
  · unfold Builtin.Int.intBits
    split
    · omega
    · rename_i h0
      have h0' : a.natAbs ≠ 0 := by simp at h0; omega
      have : a.natAbs.log2 < 31 := (Nat.log2_lt h0').mpr (by omega)
      omega
theorem pow_hide (ha : 0 ≤ a) (ha2 : a < 18446744073709551616) (hn : 0 ≤ n) (hn2 : n < 100) (h : ∀ k : Int, 0 ≤ k → Q (.int k s.toks) { s with toks := s.toks + 1 }) :
    wpAny (model prog w) A (binaryOp .Pow (.int a t) (.int n u)) Q E s :=
  pow_int_small hn (by omega) (by omega) (h _ (Int.pow_nonneg ha))
end

local macro_rules | `(tactic| k_all) => `(tactic| assumption)
local macro_rules | `(tactic| k_all) => `(tactic| (refine' List.forall_mem_cons.mpr ⟨?a, ?b⟩; (case a => first | assumption | exact Ne.symm (by assumption)); (case b => assumption)))
theorem len_pos {ns : List Int} (h : decide (ns = []) = false) : 0 < ns.length := by
  cases ns with
  | nil => simp at h
  | cons _ _ => simp
local macro_rules | `(tactic| walk_at $s:str) => `(tactic| k_extra $s)


section
variable {M : Model} {A : Around} {E : Value → Shared → Prop} {s : Shared} {st : Stmt} {tl : List Stmt} {env : Env} {Q : Flow → Shared → Prop} {h₀ : Heap} {L : Addr} {m m' : Str → Option Value} {news all : List (Addr × Obj)}
/-- behind `if pen[0] != []` of _law_draw -/
def MidE (h₀ : Heap) (L : Addr) (m : Str → Option Value) (news : List (Addr × Obj)) (s s' : Shared) : Prop :=
  ∃ (x : Int) (t : Tok) (h' : Heap) (tk' : Nat), s' = { s with heap := h', toks := tk' } ∧ Fr h₀ L h' (fun z => if z = Str.ofString "cell" then some (.int x t) else m z) ∧ News h₀ L h' news
theorem MidE.intro {x : Int} {t : Tok} {h' : Heap} {tk' : Nat} (F : Fr h₀ L h' m') (N : News h₀ L h' all) (hm : m' (Str.ofString "cell") = some (.int x t)) (hz : ∀ z, z ≠ Str.ofString "cell" → m' z = m z) (sub : ∀ p ∈ news, p ∈ all) : MidE h₀ L m news s { s with heap := h', toks := tk' } := by
  refine ⟨x, t, h', tk', rfl, ?_, fun p hp => N p (sub p hp)⟩
  have e : m' = (fun z => if z = Str.ofString "cell" then some (.int x t) else m z) := by
    funext z
    by_cases a : z = Str.ofString "cell"
    · subst a; rw [if_pos rfl, hm]
    · rw [if_neg a, hz z a]
  exact e ▸ F
theorem cut_cell (_F : Fr h₀ L s.heap m) (_N : News h₀ L s.heap news) (h1 : wpAny M A (exec st env) (fun f s' => f = .next ∧ MidE h₀ L m news s s') E s)
    (h2 : ∀ s', MidE h₀ L m news s s' → wpAny M A (execs tl env) Q E s') : wpAny M A (execs (st :: tl) env) Q E s := by
  refine wpAny_execs_cons (wpAny_mono h1 (fun f s' h => ?_) fun _ _ e => e)
  obtain ⟨rfl, hm⟩ := h
  exact h2 s' hm
def SameE (h₀ : Heap) (L : Addr) (m : Str → Option Value) (news : List (Addr × Obj)) (s s' : Shared) : Prop := ∃ h' tk', s' = { s with heap := h', toks := tk' } ∧ Fr h₀ L h' m ∧ News h₀ L h' news
theorem SameE.intro {h' : Heap} {tk' : Nat} (F : Fr h₀ L h' m) (N : News h₀ L h' all) (sub : ∀ p ∈ news, p ∈ all) : SameE h₀ L m news s { s with heap := h', toks := tk' } := ⟨h', tk', rfl, F, fun p hp => N p (sub p hp)⟩
theorem cut_great (_F : Fr h₀ L s.heap m) (_N : News h₀ L s.heap news) (h1 : wpAny M A (exec st env) (fun f s' => match f with | .next => SameE h₀ L m news s s' | f => Q f s') E s)
    (h2 : ∀ h' tk', Fr h₀ L h' m → News h₀ L h' news → wpAny M A (execs tl env) Q E { s with heap := h', toks := tk' }) : wpAny M A (execs (st :: tl) env) Q E s := by
  refine wpAny_execs_cons (wpAny_mono h1 (fun f s' h => ?_) fun _ _ e => e)
  cases f with
  | next =>
    obtain ⟨h', tk', e, F', N'⟩ := h
    exact e ▸ h2 h' tk' F' N'
  | _ => exact h
end
set_option maxRecDepth 100000 in
set_option maxHeartbeats 600000 in
theorem c_draw (w : World) (pen cells : Addr) (spot great many : Int) (t1 t2 tm : Tok) (n1 n2 : Nat) (vs : List Value) (ns : List Int) (rest : List (Addr × Obj))
   (hv : IntsAre vs ns) (hs0 : 0 ≤ spot) (hs1 : spot < 1000000) (hg0 : 0 ≤ great) (hm0 : 0 < many) (hm1 : many < 1000) (hlen : ns.length < 1000) (hne : cells ≠ pen) (hrest : ∀ q ∈ rest, q.1 ≠ pen) :
   Tag PySem.Challenge.rw_nn0197_01 hd.heap_39 (Cal w 145 [.ref pen, .int many tm] ((pen, W.listOf #[.ref cells, .int spot t1, .int great t2] n1) :: (cells, W.listOf vs.toArray n2) :: rest) 1 100 (fun r news' => 
     ∃ x t spot' great' t1' t2' n1', r = .int x t ∧ 0 ≤ x ∧ x < many ∧ spot ≤ spot' ∧ spot' ≤ spot + 1 ∧ 0 ≤ great' ∧ news' = (pen, W.listOf #[.ref cells, .int spot' t1', .int great' t2'] n1') :: (cells, W.listOf vs.toArray n2) :: rest)) := by
  w_top off
  k_with_none
  k_with "binaryOp Mod int int" => (refine' mod_hide ?k1_z ?_; (case k1_z => first | omega | (have := len_pos (by assumption); omega)); intro k hk1 hk2)
  k_with "binaryOp FloorDiv int int" => (refine' fdiv_hide ?k1_z ?k2_z ?k3_z ?_; (case k1_z => omega); (case k2_z => omega); (case k3_z => omega); intro k hk1 hk2)
  k_with "binaryOp Mult int int" => (refine' mul_hide ?k1_z ?k2_z ?k3_z ?k4_z ?_; (case k1_z => omega); (case k2_z => omega); (case k3_z => omega); (case k4_z => omega); intro k hk1 hk2)
  k_with "binaryOp Mult int int" => ((with_reducible show wpAny _ _ (binaryOp _ (Value.int (OfNat.ofNat _) _) _) _ _ _); refine mul_int ?_)
  k_with "binaryOp Pow int int" => (refine' pow_hide ?k1_z ?k2_z ?k3_z ?k4_z ?_; (case k1_z => omega); (case k2_z => omega); (case k3_z => omega); (case k4_z => omega); intro k hk1)
  k_with "binaryOp Pow int int" => ((with_reducible show wpAny _ _ (binaryOp _ (Value.int (OfNat.ofNat 10) _) _) _ _ _); refine' pow_int_small ?k1_z ?k2_z ?k3_z ?_; (case k1_z => decide); (case k2_z => decide); (case k3_z => decide); (try simp only [show (10 : Int) ^ Int.toNat 18 = 1000000000000000000 from rfl]))
  k_with "MidE" => k_dflt (refine' MidE.intro ?F_z ?N_z ?hm_z ?hz_z ?sub_z; (case F_z => k_asm); (case N_z => k_asm); (case hm_z => rfl); (case hz_z => (intro z z1; simp [z1])); (case sub_z => exact List.forall_mem_cons.mpr ⟨by k_mem, List.forall_mem_cons.mpr ⟨by k_mem, fun p hp => by repeat (first | exact hp | refine List.Mem.tail _ ?_)⟩⟩))
  k_with "SameE" => k_dflt (refine' SameE.intro ?F_z ?N_z ?sub_z; (case F_z => k_asm); (case N_z => k_asm); (case sub_z => exact List.forall_mem_cons.mpr ⟨by k_mem, List.forall_mem_cons.mpr ⟨by k_mem, fun p hp => by repeat (first | exact hp | refine List.Mem.tail _ ?_)⟩⟩))
  k_fill
  unfold Tag Cal
  intros
  rename_i hret
  refine wpAny_call ?_
  k_dflt cell_enter
  repeat' (first | (k_unfold; (try dsimp only)) | (k_end; wrow_close) | ((fail_if_success (with_reducible show wpAny _ _ (execs (Stmt.If _ _ _ _ :: _) _) _ _ _)); first | walk1 | (dsimp only; walk1) | (leave1; walk_say "STEP leave1"; try dsimp only)) | fail "no step")
  (try dsimp only)
  walk1
  (try dsimp only)
  walk1
  repeat' (first | (k_unfold; (try dsimp only)) | (k_end; wrow_close) | ((fail_if_success (with_reducible show wpAny _ _ (execs (Stmt.If _ _ _ _ :: _) _) _ _ _)); first | walk1 | (dsimp only; walk1) | (leave1; walk_say "STEP leave1"; try dsimp only)) | fail "no step")
  · (refine' hret _ _ _ _ ?F ?N ⟨_, _, _, _, _, _, _, rfl, ?a, ?b, ?c, ?d, ?e, rfl⟩; (case F => k_asm); (case N => (refine' cb_drop (by assumption) (List.forall_mem_cons.mpr ⟨by k_mem, List.forall_mem_cons.mpr ⟨by k_mem, fun p hp => by repeat (first | exact hp | refine List.Mem.tail _ ?_)⟩⟩))); (case a => omega); (case b => omega); (case c => omega); (case d => omega); (case e => omega))
  k_dflt (refine cut_cell (by k_asm) (by k_asm) ?_ ?_)
  · k_steps
    all_goals trivial
  · intro s2 hM
    obtain ⟨xM, tM, hM, tkM, rfl, F', N'⟩ := hM
    (try dsimp only)
    repeat' (first | (k_unfold; (try dsimp only)) | (k_end; wrow_close) | ((fail_if_success (with_reducible show wpAny _ _ (execs (Stmt.If _ _ _ _ :: _) _) _ _ _)); first | walk1 | (dsimp only; walk1) | (leave1; walk_say "STEP leave1"; try dsimp only)) | fail "no step")
    k_dflt (refine cut_great (by k_asm) (by k_asm) ?_ ?_)
    · k_steps
      all_goals first | trivial | (refine' hret _ _ _ _ ?F ?N ⟨_, _, _, _, _, _, _, rfl, ?a, ?b, ?c, ?d, ?e, rfl⟩; (case F => k_asm); (case N => (refine' cb_drop (by assumption) (List.forall_mem_cons.mpr ⟨by k_mem, List.forall_mem_cons.mpr ⟨by k_mem, fun p hp => by repeat (first | exact hp | refine List.Mem.tail _ ?_)⟩⟩))); (case a => omega); (case b => omega); (case c => omega); (case d => omega); (case e => omega))
    · intro h3 tk3 F' N'
      (try dsimp only)
      k_steps
      all_goals (refine' hret _ _ _ _ ?F ?N ⟨_, _, _, _, _, _, _, rfl, ?a, ?b, ?c, ?d, ?e, rfl⟩; (case F => k_asm); (case N => (refine' cb_drop (by assumption) (List.forall_mem_cons.mpr ⟨by k_mem, List.forall_mem_cons.mpr ⟨by k_mem, fun p hp => by repeat (first | exact hp | refine List.Mem.tail _ ?_)⟩⟩))); (case a => omega); (case b => omega); (case c => omega); (case d => omega); (case e => omega))
end TDrawNW
end Mine

namespace Mine
section TUse1

/-- where an entry lies in a ledger -/
inductive At (p : Addr × Obj) : List (Addr × Obj) → List (Addr × Obj) → List (Addr × Obj) → Prop
  | head {r} : At p (p :: r) [] r
  | tail {q r pre post} : At p r pre post → At p (q :: r) (q :: pre) post
theorem At.eq {p : Addr × Obj} {l pre post : List (Addr × Obj)} (h : At p l pre post) : l = pre ++ p :: post := by
  induction h with
  | head => rfl
  | tail _ ih => rw [ih]; rfl

abbrev penO (cells : Addr) (spot great : Int) (t1 t2 : Tok) (n1 : Nat) : Obj := W.listOf #[.ref cells, .int spot t1, .int great t2] n1

theorem use_draw {w : World} {pen cells : Addr} {spot great many : Int} {t1 t2 tm : Tok} {n1 n2 : Nat} {vs : List Value} {ns : List Int} {news pre post : List (Addr × Obj)}
   {p : Program} {loose : List Str} {mean : ExcName → Option Value} {mg mb : Str → Option Value} {dp un : Nat} {gd : Option (List Code)} {cn : Str} {cs : Scope} {a : Addr} {ccd : Value} {cl : List (Str × Addr)} {outer : List Env} {A₀ : Around} {base h₀ : Heap} {L : Addr} {m : Str → Option Value} {s : Shared} {Q E : Value → Shared → Prop}
   (B : Below A₀ base outer h₀) (F : Fr h₀ L s.heap m) (X : (hd.heap_39 w.params).In h₀) (N : News h₀ L s.heap news) (T : Top p loose mean mg mb h₀) (hk : cs.kind = .function)
   (hat : At (pen, W.listOf #[.ref cells, .int spot t1, .int great t2] n1) news pre post) (hc : (cells, W.listOf vs.toArray n2) ∈ post) (h1 : ∀ q ∈ pre, q.1 ≠ pen) (h2 : ∀ q ∈ post, q.1 ≠ pen)
   (hv : IntsAre vs ns) (hs0 : 0 ≤ spot) (hs1 : spot < 1000000) (hg0 : 0 ≤ great) (hm0 : 0 < many) (hm1 : many < 1000) (hlen : ns.length < 1000)
   (hd : dp + 1 < recursionLimit) (hu : un + 100 < cLine)
   (h : ∀ x t spot' great' t1' t2' n1' h' tk', 0 ≤ x → x < many → spot ≤ spot' → spot' ≤ spot + 1 → 0 ≤ great' → Fr h₀ L h' m → News h₀ L h' (pre ++ (pen, W.listOf #[.ref cells, .int spot' t1', .int great' t2'] n1') :: post) → Q (.int x t) { s with heap := h', toks := tk' }) :
   wpAny (model PySem.Challenge.rw_nn0197_01.row.prog w) (ktrTop dp un gd cn cs L a ccd cl outer) (call (.ref 145) [.ref pen, .int many tm]) Q E s := by
  have C := c_draw w pen cells spot great many t1 t2 tm n1 n2 vs ns (pre ++ post) hv hs0 hs1 hg0 hm0 hm1 hlen (h2 _ hc) (fun q hq => (List.mem_append.mp hq).elim (h1 q) (h2 q))
  unfold Tag Cal at C
  rw [hat.eq] at N
  refine C p loose mean mg mb dp un gd cn cs a ccd cl outer A₀ base h₀ L m s Q E B F X ?_ T hk hd hu ?_
  · intro q hq
    refine N q ?_
    rcases List.mem_cons.mp hq with rfl | hq
    · simp
    · rcases List.mem_cons.mp hq with rfl | hq
      · simp [hc]
      · rcases List.mem_append.mp hq with hq | hq <;> simp [hq]
  · rintro r news' h' tk' F' N' ⟨x, t, spot', great', t1', t2', n1', rfl, h3, h4, h5, h6, h7, rfl⟩
    refine h x t spot' great' t1' t2' n1' h' tk' h3 h4 h5 h6 h7 F' ?_
    intro q hq
    refine N' q ?_
    rcases List.mem_append.mp hq with hq | hq
    · simp [hq]
    · rcases List.mem_cons.mp hq with rfl | hq
      · simp
      · simp [hq]

section
variable {prog : Program} {w : World} {A : Around} {E : Value → Shared → Prop} {s : Shared}
theorem item_menu {hi : Int} {value slice : PySem.Expr} {l : Addr} {vs : List Value} {ns : List Int} {k : Int} {u : Tok} {Q : Value → Shared → Prop} (hl : s.heap.IsList l vs.toArray) (hi' : IntsAre vs ns)
    (hb : ∀ c ∈ ns, 0 ≤ c ∧ c ≤ hi) (h0 : 0 ≤ k) (h1 : k < ns.length) (hfit : k < 2 ^ 63) (h : ∀ c t, 0 ≤ c → c ≤ hi → Q (.int c t) s)
    (hs : subscripted slice false (.ref l) (.int k u) = operate [.ref l, .int k u] (getItem (.ref l) (.int k u)) := by with_unfolding_all rfl) :
    wpAny (model prog w) A (subscriptTail value slice (.ref l) (.int k u)) Q E s := by
  refine item_anyK hl hi' h0 h1 hfit (fun t => ?_) hs
  have hm : ns.getD k.toNat 0 ∈ ns := by
    rw [List.getD_eq_getElem?_getD, List.getElem?_eq_getElem (by omega)]; exact List.getElem_mem _
  exact h _ t (hb _ hm).1 (hb _ hm).2
end

open LCg in
theorem compRest_inv {prog : Program} {w : World} {A : Around} {h₀ : Heap} {L : Addr} {m : Str → Option Value} {env : Env} {elt : Expr} {x : Str} {scope : Scope} {cl : List (Str × Addr)} {s : Shared} {S : List (Addr × Obj) → Prop} {P : Nat → Value → Prop}
    {Fin : List Value → List (Addr × Obj) → Prop} {n : Nat} {news : List (Addr × Obj)} (J : Nat → List Value → List (Addr × Obj) → Prop) (h0 : J 0 [] news)
    (step : ∀ i ys news, J i ys news → i < n → ∀ v I oI C oC D m₂ h tk (E' : Value → Shared → Prop), P i v → NsObj oC m₂ → m₂ x = some v → Fr h₀ L h m → News h₀ L h ((I, oI) :: (C, oC) :: (D, lst ys) :: news) → Off3 I C D news → ((@Ne Nat I C) ∧ (@Ne Nat I D) ∧ (@Ne Nat C D)) →
      wpAny (model prog w) A (eval elt (compEnvC scope cl C env)) (CompEnd h₀ L m { s with heap := h, toks := tk } I oI C oC D (lst ys) S (fun y news' => J (i + 1) (ys ++ [y]) news')) E' { s with heap := h, toks := tk })
    (fin : ∀ ys news', J n ys news' → Fin ys news') : CompRest prog w A h₀ L m env elt x scope cl s S P Fin n 0 [] news := by
  have all : ∀ k i ys news, i + k = n → J i ys news → CompRest prog w A h₀ L m env elt x scope cl s S P Fin k i ys news := by
    intro k
    induction k with
    | zero => intro i ys news e hj; exact CompRest.zero (fin _ _ (by rw [← e]; exact hj))
    | succ k ih =>
      intro i ys news e hj
      refine CompRest.succ ?_
      intro v I oI C oC D m₂ h tk E' hP hN hx F N O ne
      refine wpAny_mono (step i ys news hj (by omega) v I oI C oC D m₂ h tk E' hP hN hx F N O ne) (fun y s₂ hc => ?_) (fun _ _ e => e)
      obtain ⟨h', tk', news', e1, e2, e3, e4, e5, e6⟩ := hc
      exact ⟨h', tk', news', e1, e2, e3, e4, e5, ih (i + 1) _ _ (by omega) e6⟩
  exact all n 0 [] news (by omega) h0
end TUse1
end Mine

namespace Mine
section TComp1

open LCg in
theorem comp_pen {prog : Program} {w : World} {A : Around} {h₀ : Heap} {L : Addr} {m : Str → Option Value} {env : Env} {elt : Expr} {x : Str} {scope : Scope} {cl : List (Str × Addr)} {s₁ : Shared}
    {Fin : Shared → List Value → List (Addr × Obj) → Prop} {news pre post : List (Addr × Obj)} {pen cells : Addr} {spot great b : Int} {t1 t2 t u v : Tok} {n1 : Nat} {r : Addr}
    (hh : A.handled = none) (F : Fr h₀ L s₁.heap m) (N : News h₀ L s₁.heap news) (hr : IsRange s₁.heap r 0 b 1 t u v) (hb0 : 0 ≤ b) (hb1 : b ≤ 1000) (hat : At (pen, W.listOf #[.ref cells, .int spot t1, .int great t2] n1) news pre post) (hg : 0 ≤ great)
    (turn : ∀ (s₂ : Shared) ys spot' great' t1' t2' n1', spot ≤ spot' → spot' < spot + b → 0 ≤ great' → ∀ I oI C oC D m₂ h tk (E' : Value → Shared → Prop), NsObj oC m₂ → Fr h₀ L h m →
      News h₀ L h ((I, oI) :: (C, oC) :: (D, lst ys) :: (pre ++ (pen, W.listOf #[.ref cells, .int spot' t1', .int great' t2'] n1') :: post)) → Off3 I C D (pre ++ (pen, W.listOf #[.ref cells, .int spot' t1', .int great' t2'] n1') :: post) → ((@Ne Nat I C) ∧ (@Ne Nat I D) ∧ (@Ne Nat C D)) →
      wpAny (model prog w) A (eval elt (compEnvC scope cl C env)) (CompEnd h₀ L m { s₂ with heap := h, toks := tk } I oI C oC D (lst ys) (fun _ => True) (fun y news' => ∃ c tc spot'' great'' t1'' t2'' n1'', y = .int c tc ∧ 0 ≤ c ∧ c ≤ 255 ∧ spot' ≤ spot'' ∧ spot'' ≤ spot' + 1 ∧ 0 ≤ great'' ∧
        news' = pre ++ (pen, W.listOf #[.ref cells, .int spot'' t1'', .int great'' t2''] n1'') :: post)) E' { s₂ with heap := h, toks := tk })
    (fin : ∀ g ys ks spot' great' t1' t2' n1', IntsAre ys ks → (ks.length : Int) = b → (∀ c ∈ ks, 0 ≤ c ∧ c ≤ 255) → spot ≤ spot' → spot' ≤ spot + b → 0 ≤ great' → Fin { s₁ with heap := g } ys (pre ++ (pen, W.listOf #[.ref cells, .int spot' t1', .int great' t2'] n1') :: post)) :
    CompSrc prog w A h₀ L m env elt x scope cl Fin (.ref r) s₁ := by
  have hrs : Builtin.Range.rangeSize 0 b 1 = ((b.toNat : Nat) : Int) := by
    unfold Builtin.Range.rangeSize
    rw [if_pos (by decide)]
    split <;> omega
  have hsm : Builtin.Range.small 0 b 1 = true := by
    unfold Builtin.Range.small
    rw [hrs]
    have hf : ∀ z : Int, 0 ≤ z → z ≤ 1000 → Builtin.Range.rangeFitsLong z = true := by
      intro z h1 h2
      unfold Builtin.Range.rangeFitsLong
      simp only [Bool.and_eq_true, decide_eq_true_eq]
      omega
    rw [hf 0 (by omega) (by omega), hf b hb0 hb1, hf 1 (by omega) (by omega), hf _ (by omega) (by omega), if_pos (by decide), hf (b + (1 - 1)) (by omega) (by omega)]
    simp
  refine CompSrc.range (n := b.toNat) hh F N hr hsm hrs (by rw [sizeLine_eq]; omega) (fun g => ?_)
  refine compRest_inv (fun i ys nw => ∃ ks spot' great' t1' t2' n1', nw = pre ++ (pen, W.listOf #[.ref cells, .int spot' t1', .int great' t2'] n1') :: post ∧ IntsAre ys ks ∧ ks.length = i ∧ (∀ c ∈ ks, 0 ≤ c ∧ c ≤ 255) ∧ spot ≤ spot' ∧ spot' ≤ spot + i ∧ 0 ≤ great') ?_ ?_ ?_
  · exact ⟨[], spot, great, t1, t2, n1, hat.eq, .nil, rfl, (fun _ h => nomatch h), by omega, by omega, hg⟩
  · rintro i ys nw ⟨ks, spot', great', t1', t2', n1', rfl, e1, e2, e3, e4, e5, e6⟩ hi v I oI C oC D m₂ h tk E' hP hN hx F N O ne
    refine wpAny_mono (turn _ ys spot' great' t1' t2' n1' e4 (by omega) e6 I oI C oC D m₂ h tk E' hN F N O ne) (fun y s₂ hc => ?_) (fun _ _ e => e)
    obtain ⟨h', tk', news', f1, f2, f3, f4, f5, c, tc, spot'', great'', t1'', t2'', n1'', rfl, c0, c1, d1, d2, d3, rfl⟩ := hc
    refine ⟨h', tk', _, f1, f2, f3, f4, f5, ks ++ [c], spot'', great'', t1'', t2'', n1'', rfl, ?_, by simp [e2], ?_, by omega, by push_cast; omega, d3⟩
    · exact e1.append (.cons c tc .nil)
    · intro c' hc'
      rcases List.mem_append.mp hc' with h | h
      · exact e3 c' h
      · have := List.mem_singleton.mp h; subst this; exact ⟨c0, c1⟩
  · rintro ys nw ⟨ks, spot', great', t1', t2', n1', rfl, e1, e2, e3, e4, e5, e6⟩
    exact fin g ys ks spot' great' t1' t2' n1' e1 (by omega) e3 e4 (by omega) e6
end TComp1
end Mine

namespace Mine
section TFigW

local macro_rules | `(tactic| k_all) => `(tactic| assumption)
local macro_rules | `(tactic| k_all) => `(tactic| (refine' List.forall_mem_cons.mpr ⟨?a, ?b⟩; (case a => first | assumption | exact Ne.symm (by assumption) | k_ne); (case b => k_all)))
local macro_rules | `(tactic| ktr_rel) => `(tactic| first | exact At.head | (refine' At.tail ?a; (case a => ktr_rel)))
local macro_rules | `(tactic| walk_at $s:str) => `(tactic| k_extra $s)

set_option maxRecDepth 100000 in
set_option maxHeartbeats 600000 in
theorem c_figs (w : World) (pen cells : Addr) (spot great : Int) (t1 t2 : Tok) (n1 n2 : Nat) (vs : List Value) (ns : List Int) (rest : List (Addr × Obj))
   (hv : IntsAre vs ns) (hs0 : 0 ≤ spot) (hs1 : spot < 900000) (hg0 : 0 ≤ great) (hlen : ns.length < 1000) (hne : cells ≠ pen) (hrest : ∀ q ∈ rest, q.1 ≠ pen) :
   Tag PySem.Challenge.rw_nn0197_01 hd.heap_39 (Cal w 150 [.ref pen] ((pen, W.listOf #[.ref cells, .int spot t1, .int great t2] n1) :: (cells, W.listOf vs.toArray n2) :: rest) 2 200 (fun r news' => 
     ∃ l us ks n spot' great' t1' t2' n1', r = .ref l ∧ IntsAre us ks ∧ ks.length ≤ 100 ∧ (∀ c ∈ ks, 0 ≤ c ∧ c ≤ 255) ∧ spot ≤ spot' ∧ spot' ≤ spot + 101 ∧ 0 ≤ great' ∧ l ≠ pen ∧ news' = (l, W.listOf us.toArray n) :: (pen, W.listOf #[.ref cells, .int spot' t1', .int great' t2'] n1') :: (cells, W.listOf vs.toArray n2) :: rest)) := by
  w_top off
  k_with_none
  k_with "call ref" => (k_here; (with_reducible show wpAny _ _ (call (Value.ref 145) [Value.ref _, Value.int _ _]) _ _ _); k_dflt (refine' use_draw ?k1_z ?k2_z ?k3_z ?k4_z ?k5_z ?kK_z ?kA_z ?kC_z ?kp_z ?kq_z ?kv_z ?ks0_z ?ks1_z ?kg_z ?km0_z ?km1_z ?kl_z ?kd_z ?ku_z ?_; (case k1_z => k_asm); (case k2_z => k_asm); (case k3_z => k_asm); (case k4_z => k_asm); (case k5_z => k_asm); (case kK_z => first | exact rfl | assumption); (case kA_z => ktr_rel); (case kC_z => k_mem); (case kp_z => k_all); (case kq_z => k_all); (case kv_z => assumption); (case ks0_z => omega); (case ks1_z => omega); (case kg_z => omega); (case km0_z => omega); (case km1_z => omega); (case kl_z => omega); (case kd_z => ktr_room); (case ku_z => ktr_units)); intro xD tD spD grD t1D t2D n1D hD tkD hD1 hD2 hD3 hD4 hD5 F' N'; (try simp only [List.cons_append, List.nil_append] at N'))
  k_with "subscriptTail" => (k_here; (with_reducible show wpAny _ _ (subscriptTail _ _ (Value.ref _) (Value.int _ _)) _ _ _); (with_unfolding_all refine' item_menu (hi := 100) ?k1_z ?k2_z ?k6_z ?k3_z ?k4_z ?k5_z ?_ ?k7_z; (case k1_z => is_list); (case k2_z => l_ints); (case k6_z => (intro c hc; simp only [List.mem_cons, List.not_mem_nil, or_false] at hc; omega)); (case k3_z => l_idx); (case k4_z => l_idx); (case k5_z => l_idx); (case k7_z => with_unfolding_all rfl); k_whole); intro cM tM hM1 hM2)
  k_with "CompSrc" => (k_here; k_dflt (refine' comp_pen ?hh_z ?F_z ?N_z ?hr_z ?b0_z ?b1_z ?aat_z ?g_z ?turn_z ?fin_z; (case hh_z => rfl); (case F_z => k_asm); (case N_z => k_asm); (case hr_z => assumption); (case b0_z => omega); (case b1_z => omega); (case aat_z => ktr_rel); (case g_z => omega)); (case' turn_z => (intro s2 ys spC grC t1C t2C n1C hC1 hC2 hC3 IC oIC CC oCC DC m2C hC tkC EC hNC F' N' off' ne'; (try simp only [List.cons_append, List.nil_append] at N' off'); (try simp only [LCg.Off3, and_true] at off'); (try dsimp only))); (case' fin_z => (intro gC ys ks spC grC t1C t2C n1C hiC hlC hbC hC1 hC2 hC3; (try simp only [List.cons_append, List.nil_append]))))
  k_fill
  unfold Tag Cal
  intros
  rename_i hret
  refine wpAny_call ?_
  k_dflt (refine' code_defC ?k1 ?k2 ?k3 ?k4 ?k5 ?kA ?kF ?kK ?k6 ?k7 ?k8 ?k9 ?kB ?kD ?_ ?c2 ?c3 ?c4; (case kA => exact rfl); (case kF => exact rfl); (case kK => assumption); (case k1 => k_asm); (case k2 => k_asm); (case k3 => k_asm); (case k4 => k_asm); (case k5 => k_asm); (case k6 => k_is); (case k7 => k_is); (case k8 => ktr_room); (case k9 => exact BindsTo.of_eq rfl); (case kB => exact rfl); (case kD => decide +kernel); (case c2 => exact rfl); (case c3 => exact rfl); (case c4 => exact rfl); k_whole; intro g' L' h' tk' cells' FG' F' N' Y' B' X' T' l1; (try k_lt l1); k_cells Y'; (try simp only [List.cons_append, List.nil_append] at N'); (try dsimp only); (try k_lift B'); (try k_fold))
  k_steps
  · refine' hret _ _ _ _ ?_ ?_ ⟨_, _, _, _, _, _, _, _, _, rfl, ?_, ?_, ?_, ?_, ?_, ?_, ?_, rfl⟩
    any_goals ((with_reducible show Fr _ _ _ _); assumption)
    any_goals ((with_reducible show News _ _ _ _); refine' cb_drop (by assumption) (List.forall_mem_cons.mpr ⟨by k_mem, List.forall_mem_cons.mpr ⟨by k_mem, List.forall_mem_cons.mpr ⟨by k_mem, fun p hp => by repeat (first | exact hp | refine List.Mem.tail _ ?_)⟩⟩⟩))
    any_goals ((with_reducible show IntsAre _ _); assumption)
    any_goals assumption
    any_goals omega
    k_ne
  · simp only [List.cons_append, List.nil_append]
    refine' LCg.CompEnd.intro (by assumption) (by assumption) _ ?_ ?_ trivial ⟨_, _, _, _, _, _, _, rfl, ?_, ?_, ?_, ?_, ?_, rfl⟩
    · repeat (refine' List.forall_mem_cons.mpr ⟨by k_mem, ?_⟩)
      intro p hp
      repeat (first | exact hp | refine List.Mem.tail _ ?_)
    · simp only [LCg.Off3, and_true]
      assumption
    all_goals omega
end TFigW
end Mine

namespace Mine
section TUse2

theorem use_figs {w : World} {pen cells : Addr} {spot great : Int} {t1 t2 : Tok} {n1 n2 : Nat} {vs : List Value} {ns : List Int} {news pre post : List (Addr × Obj)}
   {p : Program} {loose : List Str} {mean : ExcName → Option Value} {mg mb : Str → Option Value} {dp un : Nat} {gd : Option (List Code)} {cn : Str} {cs : Scope} {a : Addr} {ccd : Value} {cl : List (Str × Addr)} {outer : List Env} {A₀ : Around} {base h₀ : Heap} {L : Addr} {m : Str → Option Value} {s : Shared} {Q E : Value → Shared → Prop}
   (B : Below A₀ base outer h₀) (F : Fr h₀ L s.heap m) (X : (hd.heap_39 w.params).In h₀) (N : News h₀ L s.heap news) (T : Top p loose mean mg mb h₀) (hk : cs.kind = .function)
   (hat : At (pen, W.listOf #[.ref cells, .int spot t1, .int great t2] n1) news pre post) (hc : (cells, W.listOf vs.toArray n2) ∈ post) (h1 : ∀ q ∈ pre, q.1 ≠ pen) (h2 : ∀ q ∈ post, q.1 ≠ pen)
   (hv : IntsAre vs ns) (hs0 : 0 ≤ spot) (hs1 : spot < 900000) (hg0 : 0 ≤ great) (hlen : ns.length < 1000)
   (hd : dp + 2 < recursionLimit) (hu : un + 200 < cLine)
   (h : ∀ l us ks n spot' great' t1' t2' n1' h' tk', IntsAre us ks → ks.length ≤ 100 → (∀ c ∈ ks, 0 ≤ c ∧ c ≤ 255) → spot ≤ spot' → spot' ≤ spot + 101 → 0 ≤ great' → l ≠ pen → Fr h₀ L h' m →
      News h₀ L h' ((l, W.listOf us.toArray n) :: (pre ++ (pen, W.listOf #[.ref cells, .int spot' t1', .int great' t2'] n1') :: post)) → Q (.ref l) { s with heap := h', toks := tk' }) :
   wpAny (model PySem.Challenge.rw_nn0197_01.row.prog w) (ktrTop dp un gd cn cs L a ccd cl outer) (call (.ref 150) [.ref pen]) Q E s := by
  have C := c_figs w pen cells spot great t1 t2 n1 n2 vs ns (pre ++ post) hv hs0 hs1 hg0 hlen (h2 _ hc) (fun q hq => (List.mem_append.mp hq).elim (h1 q) (h2 q))
  unfold Tag Cal at C
  rw [hat.eq] at N
  refine C p loose mean mg mb dp un gd cn cs a ccd cl outer A₀ base h₀ L m s Q E B F X ?_ T hk hd hu ?_
  · intro q hq
    refine N q ?_
    rcases List.mem_cons.mp hq with rfl | hq
    · simp
    · rcases List.mem_cons.mp hq with rfl | hq
      · simp [hc]
      · rcases List.mem_append.mp hq with hq | hq <;> simp [hq]
  · rintro r news' h' tk' F' N' ⟨l, us, ks, n, spot', great', t1', t2', n1', rfl, h3, h4, h5, h6, h7, h8, h9, rfl⟩
    refine h l us ks n spot' great' t1' t2' n1' h' tk' h3 h4 h5 h6 h7 h8 h9 F' ?_
    intro q hq
    refine N' q ?_
    rcases List.mem_cons.mp hq with rfl | hq
    · simp
    · rcases List.mem_append.mp hq with hq | hq
      · simp [hq]
      · rcases List.mem_cons.mp hq with rfl | hq
        · simp
        · simp [hq]

theorem range_inv {prog : Program} {w : World} {A : Around} {E : Value → Shared → Prop} {s : Shared} {env : Env} {h₀ : Heap} {x : Str} {body : List Stmt} {Q : Flow → Shared → Prop}
    {r : Addr} {b : Int} {t₀ u₀ v₀ : Tok} {m₀ : Str → Option Value} {news : List (Addr × Obj)} (J : Nat → (Str → Option Value) → List (Addr × Obj) → Prop)
    (hh : A.handled = none) (hr : IsRange s.heap r 0 b 1 t₀ u₀ v₀) (hb0 : 0 ≤ b) (hb1 : b ≤ 1000) (F : Fr h₀ env.locals s.heap m₀) (N : News h₀ env.locals s.heap news)
    (h0 : J 0 m₀ news)
    (step : ∀ (i : Nat) m₁ news₁ I it t h tk, (i : Int) < b → J i m₁ news₁ → (∀ p ∈ news₁, p.1 ≠ I) → Fr h₀ env.locals h (fun y => if y = x then some (.int (0 + (i : Int)) t) else m₁ y) → News h₀ env.locals h ((I, it) :: news₁) →
      wpAny (model prog w) A (execs body env) (UnrPost h₀ env.locals { s with heap := h, toks := tk } I it (J (i + 1)) Q) E { s with heap := h, toks := tk })
    (fin : ∀ m₁ news₁ h tk, J b.toNat m₁ news₁ → Fr h₀ env.locals h m₁ → News h₀ env.locals h news₁ → Q .next { s with heap := h, toks := tk }) :
    wpAny (model prog w) A (pyIter (.ref r)) (fun it s₂ => LoopAtV prog w A h₀ env x body Q E it s₂) E s := by
  have hrs : Builtin.Range.rangeSize 0 b 1 = ((b.toNat : Nat) : Int) := by
    unfold Builtin.Range.rangeSize
    rw [if_pos (by decide)]
    split <;> omega
  have hsm : Builtin.Range.small 0 b 1 = true := by
    unfold Builtin.Range.small
    rw [hrs]
    have hf : ∀ z : Int, 0 ≤ z → z ≤ 1000 → Builtin.Range.rangeFitsLong z = true := by
      intro z h1 h2
      unfold Builtin.Range.rangeFitsLong
      simp only [Bool.and_eq_true, decide_eq_true_eq]
      omega
    rw [hf 0 (by omega) (by omega), hf b hb0 hb1, hf 1 (by omega) (by omega), hf _ (by omega) (by omega), if_pos (by decide), hf (b + (1 - 1)) (by omega) (by omega)]
    simp
  refine iter_rangeUnr hh hr hsm hrs F N (fun I hI => ?_)
  have all : ∀ k i m₁ news₁, i + k = b.toNat → J i m₁ news₁ → (∀ p ∈ news₁, p.1 ≠ I) → RangeRest prog w A E h₀ env x body Q s I 0 b.toNat k i m₁ news₁ := by
    intro k
    induction k with
    | zero => intro i m₁ news₁ e hj _ ; exact RangeRest.zero fun h tk F N => fin m₁ news₁ h tk (by rw [← e]; exact hj) F N
    | succ k ih =>
      intro i m₁ news₁ e hj hoff
      refine RangeRest.succ fun t h tk F N => ?_
      refine wpAny_mono (step i m₁ news₁ I _ t h tk (by omega) hj hoff F N) (fun f s₂ hp => ?_) (fun _ _ e => e)
      have fin' : ∀ it, UnrEnd h₀ env.locals { s with heap := h, toks := tk } I it (J (i + 1)) s₂ → UnrEnd h₀ env.locals { s with heap := h, toks := tk } I it (RangeRest prog w A E h₀ env x body Q s I 0 b.toNat k (i + 1)) s₂ := by
        rintro it ⟨h', tk', m', news', e1, e2, e3, e4, e5⟩
        exact ⟨h', tk', m', news', e1, e2, e3, e4, ih (i + 1) m' news' (by omega) e5 e4⟩
      cases f with
      | ret v => exact hp
      | brk => exact hp
      | next => exact fin' _ hp
      | cont => exact fin' _ hp
  exact all b.toNat 0 m₀ news (by omega) h0 (fun p hp => Nat.ne_of_lt (hI p hp))
end TUse2
end Mine

namespace Mine
section TCodes0

abbrev Bd (ks : List Int) : Prop := ∀ c ∈ ks, 0 ≤ c ∧ c ≤ 255
theorem Bd.nil : Bd [] := fun _ h => nomatch h
theorem Bd.cons {c : Int} {ks : List Int} (h0 : 0 ≤ c) (h1 : c ≤ 255) (h : Bd ks) : Bd (c :: ks) := by
  intro d hd
  rcases List.mem_cons.mp hd with rfl | hd
  · exact ⟨h0, h1⟩
  · exact h d hd
theorem Bd.append {ks ls : List Int} (h : Bd ks) (h' : Bd ls) : Bd (ks ++ ls) := fun c hc => (List.mem_append.mp hc).elim (h c) (h' c)
theorem Bd.take {ks : List Int} {n : Nat} (h : Bd ks) : Bd (ks.take n) := fun c hc => h c (List.mem_of_mem_take hc)
theorem Bd.drop {ks : List Int} {n : Nat} (h : Bd ks) : Bd (ks.drop n) := fun c hc => h c (List.mem_of_mem_drop hc)

def Anch (_pen _cells : Addr) (_spot : Int) (_vs : List Value) (_n2 : Nat) (_rest : List (Addr × Obj)) : Prop := True

section
variable {prog : Program} {w : World} {A : Around} {E : Value → Shared → Prop} {s : Shared} {h₀ : Heap} {L : Addr} {m : Str → Option Value} {news : List (Addr × Obj)}

theorem item_lists {value slice : PySem.Expr} {l pen cells a0 a1 a2 : Addr} {spot : Int} {vs : List Value} {n2 : Nat} {rest : List (Addr × Obj)} {u0 u1 u2 : List Value} {k0 k1 k2 : List Int} {c0 c1 c2 : Nat} {k : Int} {u : Tok} {Q : Value → Shared → Prop} (_an : Anch pen cells spot vs n2 rest) (hl : s.heap.IsList l [.ref a0, .ref a1, .ref a2].toArray) (N : News h₀ L s.heap news)
    (m0 : (a0, W.listOf u0.toArray c0) ∈ news) (m1 : (a1, W.listOf u1.toArray c1) ∈ news) (m2 : (a2, W.listOf u2.toArray c2) ∈ news) (i0 : IntsAre u0 k0) (i1 : IntsAre u1 k1) (i2 : IntsAre u2 k2)
    (l0 : k0.length ≤ 1) (l1 : k1.length ≤ 1) (l2 : k2.length ≤ 1) (b0 : Bd k0) (b1 : Bd k1) (b2 : Bd k2) (d0 : a0 ≠ pen) (d1 : a1 ≠ pen) (d2 : a2 ≠ pen) (hk0 : 0 ≤ k) (hk : k < 3)
    (h : ∀ a us ks c, a ≠ pen → IntsAre us ks → ks.length ≤ 1 → Bd ks → News h₀ L s.heap ((a, W.listOf us.toArray c) :: news) → Q (.ref a) s)
    (hs : subscripted slice false (.ref l) (.int k u) = operate [.ref l, .int k u] (getItem (.ref l) (.int k u)) := by with_unfolding_all rfl) :
    wpAny (model prog w) A (subscriptTail value slice (.ref l) (.int k u)) Q E s := by
  have dup : ∀ p, p ∈ news → News h₀ L s.heap (p :: news) := fun p hp q hq => (List.mem_cons.mp hq).elim (fun e => N q (e ▸ hp)) (N q)
  rcases (show k = 0 ∨ k = 1 ∨ k = 2 by omega) with rfl | rfl | rfl
  · exact tail_any hl.typeIs slot_list_getitem.lookup (wpAny_getItem_list hl (by decide) (by decide) (by rfl) (h a0 u0 k0 c0 d0 i0 l0 b0 (dup _ m0))) hs
  · exact tail_any hl.typeIs slot_list_getitem.lookup (wpAny_getItem_list hl (by decide) (by decide) (by rfl) (h a1 u1 k1 c1 d1 i1 l1 b1 (dup _ m1))) hs
  · exact tail_any hl.typeIs slot_list_getitem.lookup (wpAny_getItem_list hl (by decide) (by decide) (by rfl) (h a2 u2 k2 c2 d2 i2 l2 b2 (dup _ m2))) hs

theorem add_hide {l b : Addr} {vs us : List Value} {ns ms : List Int} {Q : Value → Shared → Prop} (F : Fr h₀ L s.heap m) (N : News h₀ L s.heap news) (hl : s.heap.IsList l vs.toArray) (hb : s.heap.IsList b us.toArray)
    (hi : IntsAre vs ns) (hj : IntsAre us ms) (hz1 : ns.length ≤ 10000) (hz2 : ms.length ≤ 10000) (h1 : Bd ns) (h2 : Bd ms)
    (h : ∀ D ws ks c h', Fr h₀ L h' m → News h₀ L h' ((D, W.listOf ws.toArray c) :: news) → (∀ p ∈ news, p.1 < D) → IntsAre ws ks → ks.length = ns.length + ms.length → Bd ks → Q (.ref D) { s with heap := h' }) :
    wpAny (model prog w) A (binaryOp .Add (.ref l) (.ref b)) Q E s := by
  refine add_arrays_ints F N hl hb (by simpa using hi) (by simpa using hj) (fun h' F' N' hI => ?_) (by rw [sizeLine_eq]; omega)
  exact h _ _ _ _ h' F' N' (fun p hp => Heap.lt_size (N p hp).1) hI (by simp) (h1.append h2)

theorem slice_from_hide {value slice : PySem.Expr} {l : Addr} {vs : List Value} {ns : List Int} {x : Int} {t : Tok} {Q : Value → Shared → Prop}
    (F : Fr h₀ L s.heap m) (N : News h₀ L s.heap news) (hl : s.heap.IsList l vs.toArray) (hi : IntsAre vs ns) (h0 : 0 ≤ x) (hz : ns.length ≤ 10000) (hb : Bd ns)
    (h : ∀ D ws ks c h', Fr h₀ L h' m → News h₀ L h' ((D, W.listOf ws.toArray c) :: news) → (∀ p ∈ news, p.1 < D) → IntsAre ws ks → ks.length = ns.length - x.toNat → Bd ks → Q (.ref D) { s with heap := h' })
    (hs : subscripted slice false (.ref l) (.ref s.heap.objs.size) = operate [.ref s.heap.objs.size, .ref l] (getItem (.ref l) (.ref s.heap.objs.size)) := by with_unfolding_all rfl)
    (ht : ∀ r, letTemporaryGo value (.ref l) r = pure () := by intro _; with_unfolding_all rfl) :
    wpAny (model prog w) A (subscriptTail value slice (.ref l) (.ref s.heap.objs.size)) Q E { s with heap := s.heap.push { cls := .type "slice", data := .fields #[.int x t, .none, .none] } } := by
  refine slice_list F N hl (.int _ _) .none (fun h' F' N' => ?_) hs ht (by rw [List.size_toArray, hi.length, sizeLine_eq]; omega)
  have hI := slice_ints_fromW hi h0
  refine h _ _ _ 0 h' F' (by rw [Array.toArray_toList]; exact N') (fun p hp => Nat.lt_succ_of_lt (Heap.lt_size (N p hp).1)) hI (by rw [List.length_drop]) hb.drop
theorem slice_upto_hide {value slice : PySem.Expr} {l : Addr} {vs : List Value} {ns : List Int} {x : Int} {t : Tok} {Q : Value → Shared → Prop}
    (F : Fr h₀ L s.heap m) (N : News h₀ L s.heap news) (hl : s.heap.IsList l vs.toArray) (hi : IntsAre vs ns) (h0 : 0 ≤ x) (hz : ns.length ≤ 10000) (hb : Bd ns)
    (h : ∀ D ws ks c h', Fr h₀ L h' m → News h₀ L h' ((D, W.listOf ws.toArray c) :: news) → (∀ p ∈ news, p.1 < D) → IntsAre ws ks → ks.length ≤ x.toNat → ks.length ≤ ns.length → Bd ks → Q (.ref D) { s with heap := h' })
    (hs : subscripted slice false (.ref l) (.ref s.heap.objs.size) = operate [.ref s.heap.objs.size, .ref l] (getItem (.ref l) (.ref s.heap.objs.size)) := by with_unfolding_all rfl)
    (ht : ∀ r, letTemporaryGo value (.ref l) r = pure () := by intro _; with_unfolding_all rfl) :
    wpAny (model prog w) A (subscriptTail value slice (.ref l) (.ref s.heap.objs.size)) Q E { s with heap := s.heap.push { cls := .type "slice", data := .fields #[.none, .int x t, .none] } } := by
  refine slice_list F N hl .none (.int _ _) (fun h' F' N' => ?_) hs ht (by rw [List.size_toArray, hi.length, sizeLine_eq]; omega)
  have hI := slice_ints_uptoW hi h0
  refine h _ _ _ 0 h' F' (by rw [Array.toArray_toList]; exact N') (fun p hp => Nat.lt_succ_of_lt (Heap.lt_size (N p hp).1)) hI (by rw [List.length_take]; omega) (by rw [List.length_take]; omega) hb.take

/-- the frame's names in the loop of _law_codes -/
abbrev mapC (l : Addr) (u m₀ : Str → Option Value) : Str → Option Value := fun z => if z = Str.ofString "codes" then some (.ref l) else if z = Str.ofString "spot" then u z else if z = Str.ofString "way" then u z else if z = Str.ofString "code" then u z else if z = Str.ofString "turn" then u z else m₀ z
theorem mapC_of {m' m₀ : Str → Option Value} {l : Addr} (h1 : m' (Str.ofString "codes") = some (.ref l))
    (h2 : ∀ z, z ≠ Str.ofString "codes" → z ≠ Str.ofString "spot" → z ≠ Str.ofString "way" → z ≠ Str.ofString "code" → z ≠ Str.ofString "turn" → m' z = m₀ z) : m' = mapC l m' m₀ := by
  funext z
  unfold mapC
  by_cases a : z = Str.ofString "codes"
  · subst a; rw [if_pos rfl, h1]
  · rw [if_neg a]
    by_cases b : z = Str.ofString "spot"
    · rw [if_pos b]
    · rw [if_neg b]
      by_cases c : z = Str.ofString "way"
      · rw [if_pos c]
      · rw [if_neg c]
        by_cases d : z = Str.ofString "code"
        · rw [if_pos d]
        · rw [if_neg d]
          by_cases e : z = Str.ofString "turn"
          · rw [if_pos e]
          · rw [if_neg e, h2 z a b c d e]

def JC (pen cells : Addr) (spot : Int) (vs : List Value) (n2 : Nat) (rest : List (Addr × Obj)) (m₀ : Str → Option Value) (i : Nat) (m₁ : Str → Option Value) (nw : List (Addr × Obj)) : Prop :=
  ∃ (u : Str → Option Value) (l : Addr) (us : List Value) (ks : List Int) (c : Nat) (spot' great' : Int) (t1' t2' : Tok) (n1' : Nat), m₁ = mapC l u m₀ ∧ IntsAre us ks ∧ ks.length ≤ 303 + i ∧ Bd ks ∧ spot ≤ spot' ∧ spot' ≤ spot + 500 + 5 * i ∧ 0 ≤ great' ∧ l ≠ pen ∧
    nw = (l, W.listOf us.toArray c) :: (pen, W.listOf #[.ref cells, .int spot' t1', .int great' t2'] n1') :: (cells, W.listOf vs.toArray n2) :: rest

theorem codes_loop {env : Env} {x : Str} {body : List Stmt} {Q : Flow → Shared → Prop} {r pen cells l : Addr} {b spot spot' great' : Int} {t₀ u₀ v₀ : Tok} {m₀ : Str → Option Value} {us vs : List Value} {ks : List Int} {c n2 n1' : Nat} {t1' t2' : Tok} {rest : List (Addr × Obj)}
    (_an : Anch pen cells spot vs n2 rest) (hh : A.handled = none) (hr : IsRange s.heap r 0 b 1 t₀ u₀ v₀) (hb0 : 0 ≤ b) (hb1 : b ≤ 100) (F : Fr h₀ env.locals s.heap m₀) (N : News h₀ env.locals s.heap news)
    (hm : m₀ (Str.ofString "codes") = some (.ref l)) (h1 : (l, W.listOf us.toArray c) ∈ news) (h2 : (pen, W.listOf #[.ref cells, .int spot' t1', .int great' t2'] n1') ∈ news) (h3 : (cells, W.listOf vs.toArray n2) ∈ news) (h4 : ∀ p ∈ rest, p ∈ news)
    (hi : IntsAre us ks) (hk : ks.length ≤ 303) (hb : Bd ks) (hs0 : spot ≤ spot') (hs1 : spot' ≤ spot + 500) (hg : 0 ≤ great') (hl : l ≠ pen)
    (hz0 : 0 ≤ spot) (hz1 : spot < 800000)
    (step : ∀ (i : Nat) (u : Str → Option Value) l us ks c spot' great' t1' t2' n1' I it t h tk, 0 ≤ spot → spot < 800000 → (i : Int) < 100 → IntsAre us ks → ks.length ≤ 303 + i → Bd ks → spot ≤ spot' → spot' ≤ spot + 500 + 5 * i → 0 ≤ great' → l ≠ pen →
      l ≠ I → pen ≠ I → cells ≠ I → (∀ p ∈ rest, p.1 ≠ I) →
      Fr h₀ env.locals h (fun z => if z = x then some (.int (0 + (i : Int)) t) else if z = Str.ofString "codes" then some (.ref l) else if z = Str.ofString "spot" then u z else if z = Str.ofString "way" then u z else if z = Str.ofString "code" then u z else if z = Str.ofString "turn" then u z else m₀ z) →
      News h₀ env.locals h ((I, it) :: (l, W.listOf us.toArray c) :: (pen, W.listOf #[.ref cells, .int spot' t1', .int great' t2'] n1') :: (cells, W.listOf vs.toArray n2) :: rest) →
      wpAny (model prog w) A (execs body env) (UnrPost h₀ env.locals { s with heap := h, toks := tk } I it (JC pen cells spot vs n2 rest m₀ (i + 1)) Q) E { s with heap := h, toks := tk })
    (fin : ∀ (u : Str → Option Value) l us ks c spot' great' t1' t2' n1' h tk, IntsAre us ks → ks.length ≤ 403 → Bd ks → spot ≤ spot' → spot' ≤ spot + 1000 → 0 ≤ great' → l ≠ pen →
      Fr h₀ env.locals h (fun z => if z = Str.ofString "codes" then some (.ref l) else if z = Str.ofString "spot" then u z else if z = Str.ofString "way" then u z else if z = Str.ofString "code" then u z else if z = Str.ofString "turn" then u z else m₀ z) →
      News h₀ env.locals h ((l, W.listOf us.toArray c) :: (pen, W.listOf #[.ref cells, .int spot' t1', .int great' t2'] n1') :: (cells, W.listOf vs.toArray n2) :: rest) → Q .next { s with heap := h, toks := tk }) :
    wpAny (model prog w) A (pyIter (.ref r)) (fun it s₂ => LoopAtV prog w A h₀ env x body Q E it s₂) E s := by
  have N0 : News h₀ env.locals s.heap ((l, W.listOf us.toArray c) :: (pen, W.listOf #[.ref cells, .int spot' t1', .int great' t2'] n1') :: (cells, W.listOf vs.toArray n2) :: rest) := by
    intro p hp
    rcases List.mem_cons.mp hp with rfl | hp
    · exact N _ h1
    rcases List.mem_cons.mp hp with rfl | hp
    · exact N _ h2
    rcases List.mem_cons.mp hp with rfl | hp
    · exact N _ h3
    · exact N _ (h4 _ hp)
  refine range_inv (JC pen cells spot vs n2 rest m₀) hh hr hb0 (by omega) F N0 ⟨m₀, l, us, ks, c, spot', great', t1', t2', n1', mapC_of hm (fun _ _ _ _ _ _ => rfl), hi, by omega, hb, hs0, by omega, hg, hl, rfl⟩ ?_ ?_
  · rintro i m₁ nw I it t h tk hib ⟨u, l, us, ks, c, spot', great', t1', t2', n1', rfl, e1, e2, e3, e4, e5, e6, e7, rfl⟩ off F' N'
    have o := off
    exact step i u l us ks c spot' great' t1' t2' n1' I it t h tk hz0 hz1 (by omega) e1 e2 e3 e4 e5 e6 e7 (off _ (.head _)) (off _ (.tail _ (.head _))) (off _ (.tail _ (.tail _ (.head _)))) (fun p hp => off p (.tail _ (.tail _ (.tail _ hp)))) F' N'
  · rintro m₁ nw h tk ⟨u, l, us, ks, c, spot', great', t1', t2', n1', rfl, e1, e2, e3, e4, e5, e6, e7, rfl⟩ F' N'
    exact fin u l us ks c spot' great' t1' t2' n1' h tk e1 (by omega) e3 e4 (by omega) e6 e7 F' N'
end
end TCodes0
end Mine

namespace Mine
section TCodesMW

local macro_rules | `(tactic| k_all) => `(tactic| assumption)
local macro_rules | `(tactic| k_all) => `(tactic| (refine' List.forall_mem_cons.mpr ⟨?a, ?b⟩; (case a => first | assumption | exact Ne.symm (by assumption) | k_ne); (case b => k_all)))
local macro_rules | `(tactic| ktr_rel) => `(tactic| first | exact At.head | (refine' At.tail ?a; (case a => ktr_rel)))
local macro_rules | `(tactic| walk_at $s:str) => `(tactic| k_extra $s)
local macro_rules | `(tactic| lcg_src) => `(tactic| first | assumption | exact IntsAre.nil | (refine' IntsAre.cons _ _ ?a; (case a => lcg_src)))
local macro_rules | `(tactic| lcg_sub) => `(tactic| first | assumption | exact Bd.take (by assumption) | exact Bd.drop (by assumption) | exact Bd.nil | (refine' Bd.cons ?a ?b ?c; (case a => first | decide | omega); (case b => first | decide | omega); (case c => lcg_sub)))
local macro_rules | `(tactic| lcg_off) => `(tactic| first | omega | decide | (simp only [List.length_take, List.length_drop, List.length_cons, List.length_nil]; omega))




section
variable {M : Model} {A : Around} {E : Value → Shared → Prop} {s : Shared} {st : Stmt} {tl : List Stmt} {env : Env} {Q : Flow → Shared → Prop} {h₀ : Heap} {L : Addr} {m : Str → Option Value}
/-- behind the first `if` of _law_codes -/
def MidC (pen cells : Addr) (spot : Int) (vs : List Value) (n2 : Nat) (rest : List (Addr × Obj)) (h₀ : Heap) (L : Addr) (m : Str → Option Value) (s s' : Shared) : Prop :=
  ∃ (l : Addr) (us : List Value) (ks : List Int) (c : Nat) (spot' great' : Int) (t1' t2' : Tok) (n1' : Nat) (h' : Heap) (tk' : Nat), s' = { s with heap := h', toks := tk' } ∧ Fr h₀ L h' (fun z => if z = Str.ofString "codes" then some (.ref l) else m z) ∧
    News h₀ L h' ((l, W.listOf us.toArray c) :: (pen, W.listOf #[.ref cells, .int spot' t1', .int great' t2'] n1') :: (cells, W.listOf vs.toArray n2) :: rest) ∧ IntsAre us ks ∧ ks.length ≤ 303 ∧ Bd ks ∧ spot ≤ spot' ∧ spot' ≤ spot + 450 ∧ 0 ≤ great' ∧ l ≠ pen
theorem MidC.intro {pen cells l : Addr} {spot spot' great' : Int} {vs us : List Value} {ks : List Int} {c n1' n2 : Nat} {t1' t2' : Tok} {rest all : List (Addr × Obj)} {m' : Str → Option Value} {h' : Heap} {tk' : Nat} (F : Fr h₀ L h' m') (N : News h₀ L h' all)
    (hm : m' (Str.ofString "codes") = some (.ref l)) (hz : ∀ z, z ≠ Str.ofString "codes" → m' z = m z) (sub : ∀ p ∈ (l, W.listOf us.toArray c) :: (pen, W.listOf #[.ref cells, .int spot' t1', .int great' t2'] n1') :: (cells, W.listOf vs.toArray n2) :: rest, p ∈ all)
    (hi : IntsAre us ks) (hk : ks.length ≤ 303) (hb : Bd ks) (s0 : spot ≤ spot') (s1 : spot' ≤ spot + 450) (hg : 0 ≤ great') (hl : l ≠ pen) : MidC pen cells spot vs n2 rest h₀ L m s { s with heap := h', toks := tk' } := by
  refine ⟨l, us, ks, c, spot', great', t1', t2', n1', h', tk', rfl, ?_, fun p hp => N p (sub p hp), hi, hk, hb, s0, s1, hg, hl⟩
  have e : m' = (fun z => if z = Str.ofString "codes" then some (.ref l) else m z) := by
    funext z
    by_cases a : z = Str.ofString "codes"
    · subst a; rw [if_pos rfl, hm]
    · rw [if_neg a, hz z a]
  exact e ▸ F
theorem cut_codes {pen cells : Addr} {spot : Int} {vs : List Value} {n2 : Nat} {rest : List (Addr × Obj)} (_an : Anch pen cells spot vs n2 rest) (_F : Fr h₀ L s.heap m) (h1 : wpAny M A (exec st env) (fun f s' => f = .next ∧ MidC pen cells spot vs n2 rest h₀ L m s s') E s)
    (h2 : ∀ s', MidC pen cells spot vs n2 rest h₀ L m s s' → wpAny M A (execs tl env) Q E s') : wpAny M A (execs (st :: tl) env) Q E s := by
  refine wpAny_execs_cons (wpAny_mono h1 (fun f s' h => ?_) fun _ _ e => e)
  obtain ⟨rfl, hm⟩ := h
  exact h2 s' hm
theorem JC.intro {pen cells l : Addr} {spot spot' great' : Int} {vs us : List Value} {ks : List Int} {c n1' n2 i : Nat} {t1' t2' : Tok} {rest : List (Addr × Obj)} {m₀ m' : Str → Option Value} (hm : m' (Str.ofString "codes") = some (.ref l))
    (hz : ∀ z, z ≠ Str.ofString "codes" → z ≠ Str.ofString "spot" → z ≠ Str.ofString "way" → z ≠ Str.ofString "code" → z ≠ Str.ofString "turn" → m' z = m₀ z) (hi : IntsAre us ks) (hk : ks.length ≤ 303 + i) (hb : Bd ks) (s0 : spot ≤ spot') (s1 : spot' ≤ spot + 500 + 5 * i) (hg : 0 ≤ great') (hl : l ≠ pen) :
    JC pen cells spot vs n2 rest m₀ i m' ((l, W.listOf us.toArray c) :: (pen, W.listOf #[.ref cells, .int spot' t1', .int great' t2'] n1') :: (cells, W.listOf vs.toArray n2) :: rest) :=
  ⟨m', l, us, ks, c, spot', great', t1', t2', n1', mapC_of hm hz, hi, hk, hb, s0, s1, hg, hl, rfl⟩
end
set_option maxRecDepth 100000 in
set_option maxHeartbeats 2000000 in
theorem c_codes (w : World) (pen cells : Addr) (spot great : Int) (t1 t2 : Tok) (n1 n2 : Nat) (vs : List Value) (ns : List Int) (rest : List (Addr × Obj))
   (hv : IntsAre vs ns) (hs0 : 0 ≤ spot) (hs1 : spot < 800000) (hg0 : 0 ≤ great) (hlen : ns.length < 1000) (hne : cells ≠ pen) (hrest : ∀ q ∈ rest, q.1 ≠ pen) :
   Tag PySem.Challenge.rw_nn0197_01 hd.heap_39 (Cal w 157 [.ref pen] ((pen, W.listOf #[.ref cells, .int spot t1, .int great t2] n1) :: (cells, W.listOf vs.toArray n2) :: rest) 3 300 (fun r news' => 
     ∃ l us ks n spot' great' t1' t2' n1', r = .ref l ∧ IntsAre us ks ∧ ks.length ≤ 900 ∧ (∀ c ∈ ks, 0 ≤ c ∧ c ≤ 255) ∧ spot ≤ spot' ∧ spot' ≤ spot + 10000 ∧ 0 ≤ great' ∧ l ≠ pen ∧ news' = (l, W.listOf us.toArray n) :: (pen, W.listOf #[.ref cells, .int spot' t1', .int great' t2'] n1') :: (cells, W.listOf vs.toArray n2) :: rest)) := by
  w_top off
  k_with_none
  k_with "call ref" => (k_here; (with_reducible show wpAny _ _ (call (Value.ref 145) [Value.ref _, Value.int _ _]) _ _ _); k_dflt (refine' use_draw ?k1_z ?k2_z ?k3_z ?k4_z ?k5_z ?kK_z ?kA_z ?kC_z ?kp_z ?kq_z ?kv_z ?ks0_z ?ks1_z ?kg_z ?km0_z ?km1_z ?kl_z ?kd_z ?ku_z ?_; (case k1_z => k_asm); (case k2_z => k_asm); (case k3_z => k_asm); (case k4_z => k_asm); (case k5_z => k_asm); (case kK_z => first | exact rfl | assumption); (case kA_z => ktr_rel); (case kC_z => k_mem); (case kp_z => k_all); (case kq_z => k_all); (case kv_z => assumption); (case ks0_z => omega); (case ks1_z => omega); (case kg_z => omega); (case km0_z => omega); (case km1_z => omega); (case kl_z => omega); (case kd_z => ktr_room); (case ku_z => ktr_units)); intro xD tD spD grD t1D t2D n1D hD tkD hD1 hD2 hD3 hD4 hD5 F' N'; (try simp only [List.cons_append, List.nil_append] at N'))
  k_with "subscriptTail" => (k_here; (with_reducible show wpAny _ _ (subscriptTail _ _ (Value.ref _) (Value.int _ _)) _ _ _); (with_unfolding_all refine' item_menu (hi := 255) ?k1_z ?k2_z ?k6_z ?k3_z ?k4_z ?k5_z ?_ ?k7_z; (case k1_z => is_list); (case k2_z => lcg_src); (case k6_z => lcg_sub); (case k3_z => assumption); (case k4_z => assumption); (case k5_z => omega); (case k7_z => with_unfolding_all rfl); k_whole); intro cM tM hM1 hM2)
  k_with "subscriptTail" => (k_here; (with_reducible show wpAny _ _ (subscriptTail _ _ (Value.ref _) (Value.int _ _)) _ _ _); (with_unfolding_all refine' item_menu (hi := 100) ?k1_z ?k2_z ?k6_z ?k3_z ?k4_z ?k5_z ?_ ?k7_z; (case k1_z => is_list); (case k2_z => lcg_src); (case k6_z => decide); (case k3_z => assumption); (case k4_z => assumption); (case k5_z => omega); (case k7_z => with_unfolding_all rfl); k_whole); intro cM tM hM1 hM2)
  k_with "subscriptTail" => (k_here; (with_reducible show wpAny _ _ (subscriptTail _ _ (Value.ref _) (Value.int _ _)) _ _ _); k_dflt (refine' item_lists ?an_z ?k1_z ?kN_z ?m0_z ?m1_z ?m2_z ?i0_z ?i1_z ?i2_z ?l0_z ?l1_z ?l2_z ?b0_z ?b1_z ?b2_z ?d0_z ?d1_z ?d2_z ?g0_z ?g1_z ?_ ?k7_z; (case an_z => assumption); (case k1_z => is_list); (case kN_z => k_asm); (case m0_z => k_mem); (case m1_z => k_mem); (case m2_z => k_mem); (case i0_z => lcg_src); (case i1_z => lcg_src); (case i2_z => lcg_src); (case l0_z => decide); (case l1_z => decide); (case l2_z => decide); (case b0_z => lcg_sub); (case b1_z => lcg_sub); (case b2_z => lcg_sub); (case d0_z => k_ne); (case d1_z => k_ne); (case d2_z => k_ne); (case g0_z => omega); (case g1_z => omega); (case k7_z => with_unfolding_all rfl); k_whole); intro aL usL ksL cL hLp hLi hLl hLb N')
  k_with "binaryOp Add ref ref" => (k_here; (with_reducible show wpAny _ _ (binaryOp Operator.Add (Value.ref _) (Value.ref _)) _ _ _); k_dflt (refine' add_hide ?F_z ?N_z ?k1_z ?k2_z ?i0_z ?i1_z ?l0_z ?l1_z ?b0_z ?b1_z ?_; (case F_z => k_asm); (case N_z => k_asm); (case k1_z => is_list); (case k2_z => is_list); (case i0_z => lcg_src); (case i1_z => lcg_src); (case l0_z => lcg_off); (case l1_z => lcg_off); (case b0_z => lcg_sub); (case b1_z => lcg_sub); k_whole); intro aL usL ksL cL hL F' N' l1 hLi hLl hLb; (try k_lt l1); (try simp only [List.length_take, List.length_drop, List.length_cons, List.length_nil] at hLl))
  k_with "call ref" => (k_here; (with_reducible show wpAny _ _ (call (Value.ref 150) [Value.ref _]) _ _ _); k_dflt (refine' use_figs ?k1_z ?k2_z ?k3_z ?k4_z ?k5_z ?kK_z ?kA_z ?kC_z ?kp_z ?kq_z ?kv_z ?ks0_z ?ks1_z ?kg_z ?kl_z ?kd_z ?ku_z ?_; (case k1_z => k_asm); (case k2_z => k_asm); (case k3_z => k_asm); (case k4_z => k_asm); (case k5_z => k_asm); (case kK_z => first | exact rfl | assumption); (case kA_z => ktr_rel); (case kC_z => k_mem); (case kp_z => k_all); (case kq_z => k_all); (case kv_z => assumption); (case ks0_z => omega); (case ks1_z => omega); (case kg_z => omega); (case kl_z => omega); (case kd_z => ktr_room); (case ku_z => ktr_units)); intro lD usD ksD nD spD grD t1D t2D n1D hD tkD hDi hDl hDb hD3 hD4 hD5 hDn F' N'; (try simp only [List.cons_append, List.nil_append] at N'))
  k_with "subscriptTail Name Slice ref ref" => (k_here; (with_reducible show wpAny _ _ (subscriptTail _ (PySem.Expr.Slice (some _) none none _) (Value.ref _) (Value.ref _)) _ _ _); k_dflt (refine' slice_from_hide ?F_z ?N_z ?l_z ?i_z ?x_z ?z_z ?b_z ?_ ?s_z ?t_z; (case F_z => k_asm); (case N_z => k_asm); (case l_z => is_list); (case i_z => assumption); (case x_z => omega); (case z_z => omega); (case b_z => assumption); (case s_z => with_unfolding_all rfl); (case t_z => (intro _; with_unfolding_all rfl))); intro aL usL ksL cL hL F' N' l1 hLi hLl hLb; (try k_lt l1))
  k_with "subscriptTail Name Slice ref ref" => (k_here; (with_reducible show wpAny _ _ (subscriptTail _ (PySem.Expr.Slice none (some _) none _) (Value.ref _) (Value.ref _)) _ _ _); k_dflt (refine' slice_upto_hide ?F_z ?N_z ?l_z ?i_z ?x_z ?z_z ?b_z ?_ ?s_z ?t_z; (case F_z => k_asm); (case N_z => k_asm); (case l_z => is_list); (case i_z => assumption); (case x_z => omega); (case z_z => omega); (case b_z => assumption); (case s_z => with_unfolding_all rfl); (case t_z => (intro _; with_unfolding_all rfl))); intro aL usL ksL cL hL F' N' l1 hLi hLl hLm hLb; (try k_lt l1))
  k_with "MidC" => k_dflt (refine' MidC.intro ?F_z ?N_z ?hm_z ?hz_z ?sub_z ?hi_z ?hk_z ?hb_z ?s0_z ?s1_z ?hg_z ?hl_z; (case F_z => k_asm); (case N_z => k_asm); (case hm_z => rfl); (case hz_z => (intro z z1; simp [z1])); (case sub_z => exact List.forall_mem_cons.mpr ⟨by k_mem, List.forall_mem_cons.mpr ⟨by k_mem, List.forall_mem_cons.mpr ⟨by k_mem, fun p hp => by repeat (first | exact hp | refine List.Mem.tail _ ?_)⟩⟩⟩); (case hi_z => assumption); (case hk_z => omega); (case hb_z => assumption); (case s0_z => omega); (case s1_z => omega); (case hg_z => omega); (case hl_z => k_ne))
  k_with "UnrEnd" => k_dflt (refine' UnrEnd.intro ?F_z ?N_z _ ?sub_z ?off_z (JC.intro ?hm_z ?hz_z ?hi_z ?hk_z ?hb_z ?s0_z ?s1_z ?hg_z ?hl_z); (case F_z => k_asm); (case N_z => k_asm); (case hm_z => rfl); (case hz_z => (intro z z1 z2 z3 z4 z5; simp [z1, z2, z3, z4, z5])); (case sub_z => exact List.forall_mem_cons.mpr ⟨by k_mem, List.forall_mem_cons.mpr ⟨by k_mem, List.forall_mem_cons.mpr ⟨by k_mem, List.forall_mem_cons.mpr ⟨by k_mem, fun p hp => by repeat (first | exact hp | refine List.Mem.tail _ ?_)⟩⟩⟩⟩); (case off_z => k_all); (case hi_z => assumption); (case hk_z => omega); (case hb_z => assumption); (case s0_z => omega); (case s1_z => omega); (case hg_z => omega); (case hl_z => k_ne))
  k_fill
  unfold Tag Cal
  intros
  rename_i hret
  have an : Anch pen cells spot vs n2 rest := trivial
  refine wpAny_call ?_
  k_dflt cell_enter
  repeat' (first | (k_unfold; (try dsimp only)) | (k_end; wrow_close) | ((fail_if_success (with_reducible show wpAny _ _ (execs (Stmt.If _ _ _ _ :: _) _) _ _ _)); first | walk1 | (dsimp only; walk1) | (leave1; walk_say "STEP leave1"; try dsimp only)) | fail "no step")
  k_dflt (refine cut_codes an (by k_asm) ?_ ?_)
  · k_steps
    all_goals trivial
  · intro s2 hM
    obtain ⟨lM, usM, ksM, cM, spM, grM, t1M, t2M, n1M, hM, tkM, rfl, F', N', hMi, hMk, hMb, hM0, hM1, hMg, hMl⟩ := hM
    (try dsimp only)
    repeat' (first | (k_unfold; (try dsimp only)) | (k_end; wrow_close) | ((fail_if_success (with_reducible show wpAny _ _ (pyIter (Value.ref _)) (fun it s₂ => LoopAtV _ _ _ _ _ _ _ _ _ it s₂) _ _)); first | walk1 | (dsimp only; walk1) | (leave1; walk_say "STEP leave1"; try dsimp only)) | fail "no step")
    k_dflt (refine' codes_loop ?an ?hh ?hr ?b0 ?b1 ?F ?N ?hm ?h1 ?h2 ?h3 ?h4 ?hi ?hk ?hb ?s0 ?s1 ?hg ?hl ?z0 ?z1 ?_ ?_; (case an => assumption); (case z0 => assumption); (case z1 => assumption); (case hh => rfl); (case hr => assumption); (case b0 => omega); (case b1 => omega); (case F => k_asm); (case N => k_asm); (case hm => rfl); (case h1 => k_mem); (case h2 => k_mem); (case h3 => k_mem); (case h4 => exact fun p hp => by repeat (first | exact hp | refine List.Mem.tail _ ?_)); (case hi => assumption); (case hk => omega); (case hb => assumption); (case s0 => omega); (case s1 => omega); (case hg => omega); (case hl => k_ne))
    · intro iC uC lC usC ksC cC spC grC t1C t2C n1C IC itC tC hC tkC hZ0 hZ1 hC0 hCi hCl hCb hC1 hC2 hC3 hC4 hC5 hC6 hC7 hC8 F' N'
      (try dsimp only)
      clear hMi hMk hMb hM0 hM1 hMg hMl
      k_steps
      all_goals trivial
    · intro uC lC usC ksC cC spC grC t1C t2C n1C hC tkC hCi hCl hCb hC1 hC2 hC3 hC4 F' N'
      (try dsimp only)
      clear hMi hMk hMb hM0 hM1 hMg hMl
      k_steps
      all_goals (refine' hret _ _ _ _ ?F ?N ⟨_, _, _, _, _, _, _, _, _, rfl, ?hi, ?hk, ?hb, ?s0, ?s1, ?hg, ?hl, rfl⟩; (case F => k_asm); (case N => k_asm); (case hi => assumption); (case hk => omega); (case hb => assumption); (case s0 => omega); (case s1 => omega); (case hg => assumption); (case hl => assumption))
end TCodesMW
end Mine

namespace Mine
section TDec1

def normI : Nat → Int → Int × Int
  | 0, t => (t, 0)
  | p + 1, t => if t.fmod 10 = 0 then normI p (t.fdiv 10) else (t, ((p + 1 : Nat) : Int))

def NormR (t0 p0 t p : Int) : Prop := 0 ≤ p ∧ p ≤ p0 ∧ normI p.toNat t = normI p0.toNat t0
theorem NormR.start {t p : Int} (h : 0 ≤ p) : NormR t p t p := ⟨h, Int.le_refl _, rfl⟩
theorem NormR.step {t0 p0 t p : Int} (h : NormR t0 p0 t p) (hp : 0 < p) (hm : t.fmod 10 = 0) : NormR t0 p0 (t.fdiv 10) (p - 1) := by
  obtain ⟨h0, h1, h2⟩ := h
  refine ⟨by omega, by omega, ?_⟩
  rw [← h2]
  obtain ⟨n, rfl⟩ : ∃ n : Nat, p = (n : Int) + 1 := ⟨(p - 1).toNat, by omega⟩
  have e : ((n : Int) + 1).toNat = n + 1 := by omega
  have e' : ((n : Int) + 1 - 1).toNat = n := by omega
  rw [e, e', normI, if_pos hm]
theorem NormR.done {t0 p0 t p : Int} (h : NormR t0 p0 t p) (hs : ¬ (0 < p ∧ t.fmod 10 = 0)) : normI p0.toNat t0 = (t, p) := by
  obtain ⟨h0, h1, h2⟩ := h
  rw [← h2]
  by_cases hp : 0 < p
  · have hm : ¬ t.fmod 10 = 0 := fun e => hs ⟨hp, e⟩
    obtain ⟨n, rfl⟩ : ∃ n : Nat, p = (n : Int) + 1 := ⟨(p - 1).toNat, by omega⟩
    have e : ((n : Int) + 1).toNat = n + 1 := by omega
    rw [e, normI, if_neg hm]
    rfl
  · have : p = 0 := by omega
    subst this
    rfl

/-- a Decimal's dict -/
abbrev decD (w : World) (top places : Int) (k1 k2 t1 t2 : Tok) : Obj :=
  dictOf [⟨PyData.keyHash w.params (Str.ofString "top"), .str (Str.ofString "top") k1, .int top t1⟩, ⟨PyData.keyHash w.params (Str.ofString "places"), .str (Str.ofString "places") k2, .int places t2⟩] 2

set_option maxRecDepth 100000 in
set_option maxHeartbeats 2000000 in
theorem c_dec (w : World) (top places T P : Int) (t1 t2 : Tok) (rest : List (Addr × Obj)) (hp0 : 0 ≤ places) (hp1 : places < 1000) (hn : normI places.toNat top = (T, P)) :
   Tag PySem.Challenge.rw_nn0197_01 hd.heap_39 (Cal w 115 [.int top t1, .int places t2] rest 2 200 (fun r news' => 
     ∃ (x dx : Addr) (k1 k2 t1 t2 : Tok), r = .ref x ∧ dx < x ∧ (∀ p ∈ rest, p.1 < dx) ∧ news' = (x, instObj 115 dx) :: (dx, decD w T P k1 k2 t1 t2) :: rest)) := by
  w_top off
  k_with_none
  k_fill
  unfold Tag Cal
  intros
  rename_i hret
  k_with "state" => (with_reducible (first | exact NormR.start (by omega) | exact NormR.step (by assumption) (by omega) (by omega)))
  k_with "exec While BoolOp cons nil" => k_while (fun _ t p => NormR top places t p) (fun _ t p => p.toNat) "top" "places"
  k_dflt (refine' call_cls ?k1 ?k2 ?k3 ?k4 ?k5 ?k6 ?_; (case k1 => k_asm); (case k2 => k_asm); (case k3 => k_asm); (case k4 => k_is); (case k5 => k_is); (case k6 => k_is); k_whole; intro x' d' h' F' N' l1 l2; (try k_lt l1); (try k_lt2 l2); (try k_sweep))
  k_dflt cell_enter
  k_steps
  all_goals (rename NormR _ _ _ _ => hnr; have hz := hn.symm.trans (hnr.done (by omega)); injection hz with hz1 hz2; subst hz1; subst hz2)
  all_goals refine' hret _ _ _ _ (by k_asm) (by k_asm) ⟨_, _, _, _, _, _, rfl, by assumption, by assumption, rfl⟩
end TDec1
end Mine

namespace Mine
section TReadNW

/-- what read_decimal tells -/
inductive Rd where
  | none
  | whole (t : Int)
  | real (t p : Int)

def rdStep : Option (Int × Int × Int) → Int → Option (Int × Int × Int)
  | none, _ => none
  | some (t, n, p), c => if c = 46 ∧ p < 0 then some (t, n, 0) else if 48 ≤ c ∧ c ≤ 57 then some (10 * t + c - 48, n + 1, if 0 ≤ p then p + 1 else p) else none
theorem rdStep_none (ks : List Int) : ks.foldl rdStep none = none := by
  induction ks with
  | nil => rfl
  | cons c r ih => exact ih

def rdEnd (neg : Bool) : Option (Int × Int × Int) → Rd
  | none => .none
  | some (t, n, p) => if n = 0 ∨ 40 < n then .none else if p < 0 then .whole (if neg then -t else t) else .real (normI p.toNat (if neg then -t else t)).1 (normI p.toNat (if neg then -t else t)).2
def rdBody (ks : List Int) : List Int := match ks with
  | 43 :: r => r
  | 45 :: r => r
  | _ => ks
def readD (ks : List Int) : Rd := rdEnd (decide (ks.head? = some 45)) ((rdBody ks).foldl rdStep (some (0, 0, -1)))

def RdInv (pre : List Int) (t n p : Int) : Prop := pre.foldl rdStep (some (0, 0, -1)) = some (t, n, p) ∧ -1 ≤ p ∧ p ≤ n ∧ 0 ≤ n ∧ n ≤ (pre.length : Int)
theorem RdInv.start : RdInv [] 0 0 (-1) := ⟨rfl, by omega, by omega, by omega, by simp⟩
theorem RdInv.point {pre : List Int} {t n p c : Int} (h : RdInv pre t n p) (h1 : c = 46) (h2 : p < 0) : RdInv (pre ++ [c]) t n 0 := by
  obtain ⟨e, a, b, d, f⟩ := h
  refine ⟨?_, by omega, by omega, d, by simp; omega⟩
  rw [List.foldl_append, e]
  simp [rdStep, h1, h2]
theorem RdInv.digit0 {pre : List Int} {t n p c : Int} (h : RdInv pre t n p) (h0 : ¬ (c = 46 ∧ p < 0)) (h1 : 48 ≤ c) (h2 : c ≤ 57) (h3 : p < 0) : RdInv (pre ++ [c]) (10 * t + c - 48) (n + 1) p := by
  obtain ⟨e, a, b, d, f⟩ := h
  refine ⟨?_, by omega, by omega, by omega, by simp; omega⟩
  rw [List.foldl_append, e]
  simp only [List.foldl_cons, List.foldl_nil, rdStep]
  rw [if_neg h0, if_pos ⟨h1, h2⟩, if_neg (by omega)]
theorem RdInv.digit1 {pre : List Int} {t n p c : Int} (h : RdInv pre t n p) (h0 : ¬ (c = 46 ∧ p < 0)) (h1 : 48 ≤ c) (h2 : c ≤ 57) (h3 : 0 ≤ p) : RdInv (pre ++ [c]) (10 * t + c - 48) (n + 1) (p + 1) := by
  obtain ⟨e, a, b, d, f⟩ := h
  refine ⟨?_, by omega, by omega, by omega, by simp; omega⟩
  rw [List.foldl_append, e]
  simp only [List.foldl_cons, List.foldl_nil, rdStep]
  rw [if_neg h0, if_pos ⟨h1, h2⟩, if_pos h3]
theorem RdInv.stop {ks pre post : List Int} {t n p c : Int} (h : RdInv pre t n p) (e : ks = pre ++ c :: post) (h0 : ¬ (c = 46 ∧ p < 0)) (h1 : ¬ (48 ≤ c ∧ c ≤ 57)) : ks.foldl rdStep (some (0, 0, -1)) = none := by
  rw [e, List.foldl_append, h.1, List.foldl_cons]
  have : rdStep (some (t, n, p)) c = none := by
    simp only [rdStep]
    rw [if_neg h0, if_neg h1]
  rw [this, rdStep_none]

theorem take_drop_min (ks : List Int) (j : Nat) : List.take (ks.length - min j ks.length) (List.drop (min j ks.length) ks) = ks.drop j := by
  rw [List.take_of_length_le (by rw [List.length_drop]; omega)]
  rcases Nat.le_total j ks.length with h | h
  · rw [Nat.min_eq_left h]
  · rw [Nat.min_eq_right h, List.drop_eq_nil_of_le h, List.drop_eq_nil_of_le (Nat.le_refl _)]
theorem body1 {ks : List Int} (h : ks.getD 0 0 = 43 ∨ ks.getD 0 0 = 45) : rdBody ks = ks.drop 1 := by
  cases ks with
  | nil => simp at h
  | cons c r =>
    simp at h
    rcases h with rfl | rfl <;> rfl
theorem body0 {ks : List Int} (h1 : ks.getD 0 0 ≠ 43) (h2 : ks.getD 0 0 ≠ 45) : rdBody ks = ks := by
  cases ks with
  | nil => rfl
  | cons c r =>
    simp at h1 h2
    unfold rdBody
    split
    · rename_i e; injection e with a b; exact absurd a h1
    · rename_i e; injection e with a b; exact absurd a h2
    · rfl


theorem RdInv.pos {ks : List Int} {i j : Nat} {t n p : Int} (h : RdInv (List.take (ks.length - i) (List.drop j ks)) t n p) (hn : n ≠ 0) : 0 < ks.length := by
  obtain ⟨_, _, _, d, f⟩ := h
  simp only [List.length_take, List.length_drop] at f
  omega

theorem use_dec {w : World} {top places : Int} {tt tp : Tok} {news : List (Addr × Obj)}
   {p : Program} {loose : List Str} {mean : ExcName → Option Value} {mg mb : Str → Option Value} {dp un : Nat} {gd : Option (List Code)} {cn : Str} {cs : Scope} {a : Addr} {ccd : Value} {cl : List (Str × Addr)} {outer : List Env} {A₀ : Around} {base h₀ : Heap} {L : Addr} {m : Str → Option Value} {s : Shared} {Q E : Value → Shared → Prop}
   (B : Below A₀ base outer h₀) (F : Fr h₀ L s.heap m) (X : (hd.heap_39 w.params).In h₀) (N : News h₀ L s.heap news) (T : Top p loose mean mg mb h₀) (hk : cs.kind = .function)
   (hp0 : 0 ≤ places) (hp1 : places < 1000)
   (hd : dp + 2 < recursionLimit) (hu : un + 200 < cLine)
   (h : ∀ x dx k1 k2 t1 t2 h' tk', dx < x → (∀ p ∈ news, p.1 < dx) → Fr h₀ L h' m → News h₀ L h' ((x, instObj 115 dx) :: (dx, decD w (normI places.toNat top).1 (normI places.toNat top).2 k1 k2 t1 t2) :: news) → Q (.ref x) { s with heap := h', toks := tk' }) :
   wpAny (model PySem.Challenge.rw_nn0197_01.row.prog w) (ktrTop dp un gd cn cs L a ccd cl outer) (call (.ref 115) [.int top tt, .int places tp]) Q E s := by
  have C := c_dec w top places (normI places.toNat top).1 (normI places.toNat top).2 tt tp news hp0 hp1 rfl
  unfold Tag Cal at C
  refine C p loose mean mg mb dp un gd cn cs a ccd cl outer A₀ base h₀ L m s Q E B F X N T hk hd hu ?_
  rintro r news' h' tk' F' N' ⟨x, dx, k1, k2, t1, t2, rfl, l1, l2, rfl⟩
  exact h x dx k1 k2 t1 t2 h' tk' l1 l2 F' N'

/-- what read_decimal hands back -/
def RetRd (w : World) (rest : List (Addr × Obj)) (d : Rd) (r : Value) (news' : List (Addr × Obj)) : Prop := match d with
  | .none => r = .none ∧ news' = rest
  | .whole t => (∃ tk, r = .int t tk) ∧ news' = rest
  | .real t p => ∃ (x dx : Addr) (k1 k2 t1 t2 : Tok), r = .ref x ∧ dx < x ∧ (∀ p ∈ rest, p.1 < dx) ∧ news' = (x, instObj 115 dx) :: (dx, decD w t p k1 k2 t1 t2) :: rest

/-- where the numerals begin -/
def HJ (ks : List Int) (j : Nat) : Prop := (ks.getD 0 0 = 43 ∨ ks.getD 0 0 = 45) ∧ j = 1 ∨ (ks.getD 0 0 ≠ 43 ∧ ks.getD 0 0 ≠ 45) ∧ j = 0
theorem hj43 {ks : List Int} (h : ks.getD 0 0 = 43) : HJ ks 1 := .inl ⟨.inl h, rfl⟩
theorem hj45 {ks : List Int} (h : ks.getD 0 0 = 45) : HJ ks 1 := .inl ⟨.inr h, rfl⟩
theorem hj0 {ks : List Int} (h : ks.getD 0 0 ≠ 43) (h' : ks.getD 0 0 ≠ 45) : HJ ks 0 := .inr ⟨⟨h, h'⟩, rfl⟩
theorem hjE {ks : List Int} (h : ¬ 0 < (ks.length : Int)) : HJ ks 0 := by
  have e : ks = [] := List.length_eq_zero_iff.mp (by omega)
  subst e
  exact .inr ⟨⟨by simp, by simp⟩, rfl⟩
section
variable {w : World} {rest : List (Addr × Obj)} {b : Array UInt8} {ks : List Int}
theorem ret_stop {j : Nat} {pre post : List Int} {t n p c : Int} (hj : HJ ks j)
    (e : List.take (ks.length - min j ks.length) (List.drop (min j ks.length) ks) = pre ++ c :: post) (h : RdInv pre t n p) (h0 : ¬ (c = 46 ∧ p < 0)) (h1 : ¬ (48 ≤ c ∧ c ≤ 57)) : RetRd w rest (readD ks) .none rest := by
  rw [take_drop_min] at e
  have hb : rdBody ks = ks.drop j := by
    rcases hj with ⟨hc, rfl⟩ | ⟨hc, rfl⟩
    · exact body1 hc
    · exact body0 hc.1 hc.2
  unfold readD
  rw [hb, h.stop e h0 h1]
  exact ⟨rfl, rfl⟩
theorem ret_none {j : Nat} {t n p : Int} (hj : HJ ks j)
    (h : RdInv (List.take (ks.length - min j ks.length) (List.drop (min j ks.length) ks)) t n p) (h0 : n = 0 ∨ 40 < n) : RetRd w rest (readD ks) .none rest := by
  rw [take_drop_min] at h
  have hb : rdBody ks = ks.drop j := by
    rcases hj with ⟨hc, rfl⟩ | ⟨hc, rfl⟩
    · exact body1 hc
    · exact body0 hc.1 hc.2
  unfold readD
  rw [hb, h.1]
  simp only [rdEnd]
  rw [if_pos h0]
  exact ⟨rfl, rfl⟩
theorem ret_whole {j : Nat} {t n p T : Int} {tk : Tok} (hj : HJ ks j)
    (h : RdInv (List.take (ks.length - min j ks.length) (List.drop (min j ks.length) ks)) t n p) (h0 : n ≠ 0) (h1 : ¬ 40 < n) (hp : p < 0) (hT : T = if ks.getD 0 0 = 45 then -t else t) : RetRd w rest (readD ks) (.int T tk) rest := by
  rw [take_drop_min] at h
  have hb : rdBody ks = ks.drop j := by
    rcases hj with ⟨hc, rfl⟩ | ⟨hc, rfl⟩
    · exact body1 hc
    · exact body0 hc.1 hc.2
  have hne : decide (ks.head? = some 45) = decide (ks.getD 0 0 = 45) := by
    cases ks with
    | nil => rfl
    | cons c r => simp
  unfold readD
  rw [hb, h.1]
  simp only [rdEnd]
  rw [if_neg (by omega), if_pos hp, hne]
  refine ⟨⟨tk, ?_⟩, rfl⟩
  rw [hT]
  by_cases h45 : ks.getD 0 0 = 45
  · rw [if_pos h45, decide_eq_true h45]; rfl
  · rw [if_neg h45, decide_eq_false h45]; rfl
theorem ret_real {j : Nat} {t n p T : Int} {x dx : Addr} {k1 k2 t1 t2 : Tok} (hj : HJ ks j)
    (h : RdInv (List.take (ks.length - min j ks.length) (List.drop (min j ks.length) ks)) t n p) (h0 : n ≠ 0) (h1 : ¬ 40 < n) (hp : ¬ p < 0) (hT : T = if ks.getD 0 0 = 45 then -t else t) (hx : dx < x) (hr : ∀ p ∈ rest, p.1 < dx) :
    RetRd w rest (readD ks) (.ref x) ((x, instObj 115 dx) :: (dx, decD w (normI p.toNat T).1 (normI p.toNat T).2 k1 k2 t1 t2) :: rest) := by
  rw [take_drop_min] at h
  have hb : rdBody ks = ks.drop j := by
    rcases hj with ⟨hc, rfl⟩ | ⟨hc, rfl⟩
    · exact body1 hc
    · exact body0 hc.1 hc.2
  have hne : decide (ks.head? = some 45) = decide (ks.getD 0 0 = 45) := by
    cases ks with
    | nil => rfl
    | cons c r => simp
  unfold readD
  rw [hb, h.1]
  simp only [rdEnd]
  rw [if_neg (by omega), if_neg hp, hne]
  have hT' : (if decide (ks.getD 0 0 = 45) = true then -t else t) = T := by rw [hT]; by_cases h45 : ks.getD 0 0 = 45 <;> simp [h45]
  rw [hT']
  exact ⟨x, dx, k1, k2, t1, t2, rfl, hx, hr, rfl⟩
end

/-- behind the first if: where the numerals begin -/
def MidR (ks : List Int) (h₀ : Heap) (L : Addr) (m₀ : Str → Option Value) (news : List (Addr × Obj)) (s s' : Shared) : Prop :=
  ∃ (j : Nat) (t : Tok) (h' : Heap) (tk' : Nat), s' = { s with heap := h', toks := tk' } ∧ HJ ks j ∧ Fr h₀ L h' (fun z => if z = Str.ofString "begun" then some (.int (j : Int) t) else m₀ z) ∧ News h₀ L h' news
section
variable {ks : List Int} {h₀ : Heap} {L : Addr} {m₀ m : Str → Option Value} {news all : List (Addr × Obj)} {s : Shared}
theorem MidR.intro {j : Nat} {t : Tok} {h' : Heap} {tk' : Nat} (hj : HJ ks j) (F : Fr h₀ L h' m) (N : News h₀ L h' news) (hb : m (Str.ofString "begun") = some (.int (j : Int) t)) (he : ∀ z, z ≠ Str.ofString "begun" → m z = m₀ z) : MidR ks h₀ L m₀ news s { s with heap := h', toks := tk' } := by
  have e : m = fun z => if z = Str.ofString "begun" then some (.int (j : Int) t) else m₀ z := by
    funext z
    by_cases h : z = Str.ofString "begun"
    · rw [if_pos h, h, hb]
    · rw [if_neg h, he z h]
  subst e
  exact ⟨j, t, h', tk', rfl, hj, F, N⟩
theorem cut_read {M : Model} {A : Around} {E : Value → Shared → Prop} {st : Stmt} {tl : List Stmt} {env : Env} {Q : Flow → Shared → Prop} {t : Tok} (ks : List Int) (_F : Fr h₀ L s.heap (fun z => if z = Str.ofString "begun" then some (.int 0 t) else m₀ z)) (_N : News h₀ L s.heap news)
    (h1 : wpAny M A (exec st env) (fun f s' => f = .next ∧ MidR ks h₀ L m₀ news s s') E s) (h2 : ∀ s', MidR ks h₀ L m₀ news s s' → wpAny M A (execs tl env) Q E s') : wpAny M A (execs (st :: tl) env) Q E s := by
  refine wpAny_execs_cons (wpAny_mono h1 (fun f s' h => ?_) fun _ _ e => e)
  obtain ⟨rfl, hm⟩ := h
  exact h2 s' hm
end
local macro_rules | `(tactic| walk_at $s:str) => `(tactic| k_extra $s)
set_option maxRecDepth 100000 in
set_option maxHeartbeats 2000000 in
theorem c_read (w : World) (b : Array UInt8) (ks : List Int) (tb : Tok) (hb : KBw.bInts b = ks) (hlen : ks.length ≤ 1000) (rest : List (Addr × Obj)) :
   Tag PySem.Challenge.rw_nn0197_01 hd.heap_39 (Cal w 133 [.bytes b tb] rest 5 500 (fun r news' => 
     RetRd w rest (readD ks) r news')) := by
  w_top off
  k_with_none
  k_with "InvEndN" => k_dflt ((rename News _ _ _ _ => nE'); (refine' kst_end ⟨_, _, _, _, _, _⟩ ?q1_z nE' (fun p hp => List.mem_append_left _ hp) (fun p hp => List.mem_append_right _ hp) ?q5_z ?q6_z ?q7_z ?q8_z ?q9_z); (case q1_z => assumption); (case q7_z => kst_all); (case q5_z => rfl); (case q6_z => kst_facts);  (case q8_z => kst_same); (case q9_z => kst_p))
  k_with "subscriptTail" => (k_here; (with_reducible show wpAny _ _ (subscriptTail _ _ (Value.bytes _ _) (Value.int _ _)) _ _ _); (with_reducible rename RdInv _ _ _ _ => hrd); (have hpos := hrd.pos (by omega)); (refine' KBw.item_K (ks := ?ks_z) ?k1_z ?k2_z ?k3_z ?k4_z ?_; (case k1_z => assumption); (case k2_z => omega); (case k3_z => decide); (case k4_z => omega)); intro kbaLo kbaHi)
  k_with "call ref" => (k_here; (with_reducible show wpAny _ _ (call (Value.ref 115) [Value.int _ _, Value.int _ _]) _ _ _); k_dflt (refine' use_dec ?k1_z ?k2_z ?k3_z ?k4_z ?k5_z ?kK_z ?p0_z ?p1_z ?kd_z ?ku_z ?_; (case k1_z => k_asm); (case k2_z => k_asm); (case k3_z => k_asm); (case k4_z => k_asm); (case k5_z => k_asm); (case kK_z => first | exact rfl | assumption); (case p0_z => omega); (case p1_z => (rename RdInv _ _ _ _ => hrd; obtain ⟨_, _, _, _, _⟩ := hrd; omega)); (case kd_z => ktr_room); (case ku_z => ktr_units)); intro xN dN k1N k2N t1N t2N hN tkN l1 l2 F' N')
  k_with "exec For Name Subscript cons nil" => (k_here; (rename Fr _ _ _ _ => lF'); (with_unfolding_all refine' For_invVF lF' ?k1_z ?k2_z ?_; (case k1_z => exact rfl); (case k2_z => exact rfl); k_whole))
  k_fill
  unfold Tag Cal
  intros
  rename_i hret
  refine wpAny_call ?_
  k_dflt cell_enter
  repeat' (first | (k_unfold; (try dsimp only)) | (k_end; wrow_close) | ((fail_if_success (with_reducible show wpAny _ _ (execs (Stmt.If _ _ _ _ :: _) _) _ _ _)); first | walk1 | (dsimp only; walk1) | (leave1; walk_say "STEP leave1"; try dsimp only)) | fail "no step")
  k_dflt (refine cut_read ks (by k_asm) (by k_asm) ?_ ?_)
  · k_steps
    all_goals first
      | refine MidR.intro (j := 1) (by first | exact hj43 (by assumption) | exact hj45 (by assumption)) (by assumption) (by assumption) (by rfl) (fun z hz => by simp [hz])
      | refine MidR.intro (j := 0) (by first | exact hj0 (by assumption) (by assumption) | exact hjE (by assumption)) (by assumption) (by assumption) (by rfl) (fun z hz => by simp [hz])
  · intro s2 hM
    obtain ⟨j, t2, h2, tk2, rfl, hj, F', N'⟩ := hM
    k_with "state" => (with_reducible (first | exact RdInv.start | exact RdInv.point (by assumption) (by omega) (by omega) | exact RdInv.digit0 (by assumption) (by omega) (by omega) (by omega) (by omega) | exact RdInv.digit1 (by assumption) (by omega) (by omega) (by omega) (by omega)))
    k_with "pyIter bytes" => k_state (fun pre t n p => RdInv pre t n p) "top" "numerals" "places"
    k_steps
    all_goals first
      | refine' hret _ _ _ _ (by k_asm) (by first | k_asm | exact cb_drop (by assumption) (fun p hp => List.mem_append_left _ hp)) (ret_stop hj (by assumption) (by assumption) (by omega) (by omega))
      | refine' hret _ _ _ _ (by k_asm) (by first | k_asm | exact cb_drop (by assumption) (fun p hp => List.mem_append_left _ hp)) (ret_none hj (by assumption) (by omega))
      | refine' hret _ _ _ _ (by k_asm) (by first | k_asm | exact cb_drop (by assumption) (fun p hp => List.mem_append_left _ hp)) (ret_whole hj (by assumption) (by assumption) (by assumption) (by assumption) (by first | exact (if_pos (by assumption)).symm | exact (if_neg (by assumption)).symm))
      | refine' hret _ _ _ _ (by k_asm) (by first | k_asm | exact cb_drop (by assumption) (fun p hp => List.mem_append_left _ hp)) (ret_real hj (by assumption) (by assumption) (by assumption) (by assumption) (by first | exact (if_pos (by assumption)).symm | exact (if_neg (by assumption)).symm) (by assumption) (by assumption))
      | (exfalso; omega)
end TReadNW
end Mine

namespace Mine
section TStrR

/-- the signs of a number's text -/
def digs (n : Nat) : List Nat := (Nat.toDigits 10 n).map Char.toNat

theorem cs_nat (n : Nat) : (Str.ofString (toString (n : Int))).cps.toList = digs n := by
  rw [signs_ofString]
  have e : toString (n : Int) = Nat.repr n := rfl
  rw [e, Nat.repr_eq_ofList_toDigits, String.toList_ofList]
  rfl
theorem digs_len {n k : Nat} (h : n < 10 ^ k) (hk : 0 < k) : (digs n).length ≤ k := by
  unfold digs
  rw [List.length_map]
  exact (Nat.length_toDigits_le_iff (by decide) hk).mpr h

section
variable {prog : Program} {w : World} {A : Around} {E : Value → Shared → Prop} {s : Shared} {h₀ : Heap} {L : Addr} {m : Str → Option Value} {news : List (Addr × Obj)}

theorem abs_cs {a : Int} {t : Tok} {Q : Value → Shared → Prop} (h : ∀ u tk, Q (.int (a.natAbs : Int) u) { s with toks := tk }) : wpAny (model prog w) A (call (.builtin "abs") [.int a t]) Q E s := by
  refine call_abs_int fun u tk => ?_
  have e : (if a < 0 then -a else a) = (a.natAbs : Int) := by split <;> omega
  rw [e]
  exact h u tk

theorem str_cs {n : Nat} {t : Tok} {Q : Value → Shared → Prop} (hn : n < 10 ^ 41) (h : ∀ v u tk, v.cps.toList = digs n → Q (.str v u) { s with toks := tk }) : wpAny (model prog w) A (call (.type "str") [.int (n : Int) t]) Q E s := by
  refine P.str_of_int ?_ (h _ _ _ (cs_nat n))
  show (n : Nat).log2 < 1920
  by_cases h0 : n = 0
  · subst h0; decide
  · refine (Nat.log2_lt h0).mpr (Nat.lt_trans hn ?_)
    decide +kernel

theorem length_cs {v : Str} {l : List Nat} (hv : v.cps.toList = l) : v.length = l.length := by
  rw [← hv]; exact Array.length_toList.symm
theorem len_cs {v : Str} {t : Tok} {l : List Nat} {Q : Value → Shared → Prop} (hv : v.cps.toList = l) (hl : l.length ≤ 100000) (h : ∀ u tk, Q (.int (l.length : Int) u) { s with toks := tk }) : wpAny (model prog w) A (call (.builtin "len") [.str v t]) Q E s := by
  have e := length_cs hv
  refine P.len_str (by rw [e]; omega) ?_
  rw [e]
  exact h _ _

theorem foldl_one (c : Nat) : ∀ (n : Nat) (a : Array Nat), (List.foldl (fun x1 x2 => x1 ++ x2) a (List.replicate n #[c])).toList = a.toList ++ List.replicate n c
  | 0, a => by simp
  | n + 1, a => by
    rw [List.replicate_succ, List.foldl_cons, foldl_one c n, List.replicate_succ]
    simp
theorem mul_list_cs {x : Str} {c : Nat} (hx : x = ⟨#[c]⟩) (n : Int) : (Txt.mul x n).cps.toList = List.replicate n.toNat c := by
  subst hx
  unfold Txt.mul
  split
  · rename_i h
    have : n.toNat = 0 := by omega
    rw [this]
    rfl
  · split
    · rename_i h1 h
      have : n = 1 := by
        simp at h
        rcases h with h | h
        · exact h
        · exact absurd h (by show ¬ ((1 : Nat) = 0); decide)
      subst this
      rfl
    · show (List.foldl _ #[] (List.replicate n.toNat #[c])).toList = _
      rw [foldl_one]
      simp
theorem mul_cs {x : Str} {t u : Tok} {c : Nat} {n : Int} {Q : Value → Shared → Prop} (hx : x = ⟨#[c]⟩) (h0 : -1000 ≤ n) (h1 : n ≤ 1000) (h : ∀ v u tk, v.cps.toList = List.replicate n.toNat c → Q (.str v u) { s with toks := tk }) :
    wpAny (model prog w) A (binaryOp .Mult (.str x t) (.int n u)) Q E s := by
  refine KXi.mul (n := 1) (by rw [hx]; rfl) (by decide) (by omega) (by omega) fun t' k _ _ => ?_
  exact h _ _ _ (mul_list_cs hx n)

theorem add_cs {x y : Str} {t u : Tok} {l1 l2 : List Nat} {Q : Value → Shared → Prop} (hx : x.cps.toList = l1) (hy : y.cps.toList = l2) (h1 : l1.length ≤ 100000) (h2 : l2.length ≤ 100000)
    (h : ∀ v u tk, v.cps.toList = l1 ++ l2 → Q (.str v u) { s with toks := tk }) : wpAny (model prog w) A (binaryOp .Add (.str x t) (.str y u)) Q E s := by
  refine SBL.add (fun t' k _ => ?_) (by rw [length_cs hx, length_cs hy, sizeLine_eq]; omega)
  refine h _ _ _ ?_
  rw [KT.app_list, hx, hy]

theorem slice_upto_neg {value slice : PySem.Expr} {x : Str} {t uj : Tok} {l : List Nat} {j : Int} {Q : Value → Shared → Prop} (F : Fr h₀ L s.heap m) (N : News h₀ L s.heap news) (hx : x.cps.toList = l) (hl : l.length ≤ 100000) (h0 : 0 < j) (h1 : j ≤ (l.length : Int))
    (h : ∀ v u h' tk, Fr h₀ L h' m → News h₀ L h' news → v.cps.toList = l.take (l.length - j.toNat) → Q (.str v u) { s with heap := h', toks := tk })
    (hs : subscripted slice false (.str x t) (.ref s.heap.objs.size) = operate [.ref s.heap.objs.size, .str x t] (getItem (.str x t) (.ref s.heap.objs.size)) := by with_unfolding_all rfl)
    (ht : ∀ r, letTemporaryGo value (.str x t) r = pure () := by intro _; with_unfolding_all rfl) :
    wpAny (model prog w) A (subscriptTail value slice (.str x t) (.ref s.heap.objs.size)) Q E { s with heap := s.heap.push { cls := .type "slice", data := .fields #[.none, .int (-j) uj, .none] } } := by
  refine slice_strN_ns F N (fun h' t' k F' N' => ?_) hs ht (by rw [length_cs hx, sizeLine_eq]; omega)
  refine h _ _ _ _ F' N' ?_
  have e : Txt.slice x none (some (-j)) = StrLaws.sliceText x none (some (-j)) := rfl
  rw [e, StrLaws.sliceText_to_neg (by omega) (by rw [length_cs hx]; omega), length_cs hx]
  show List.take _ (List.drop 0 x.cps.toList) = _
  rw [hx, List.drop_zero]
  congr 1
  omega
theorem slice_from_neg_cs {value slice : PySem.Expr} {x : Str} {t uj : Tok} {l : List Nat} {j : Int} {Q : Value → Shared → Prop} (F : Fr h₀ L s.heap m) (N : News h₀ L s.heap news) (hx : x.cps.toList = l) (hl : l.length ≤ 100000) (h0 : 0 < j) (h1 : j ≤ (l.length : Int))
    (h : ∀ v u h' tk, Fr h₀ L h' m → News h₀ L h' news → v.cps.toList = l.drop (l.length - j.toNat) → Q (.str v u) { s with heap := h', toks := tk })
    (hs : subscripted slice false (.str x t) (.ref s.heap.objs.size) = operate [.ref s.heap.objs.size, .str x t] (getItem (.str x t) (.ref s.heap.objs.size)) := by with_unfolding_all rfl)
    (ht : ∀ r, letTemporaryGo value (.str x t) r = pure () := by intro _; with_unfolding_all rfl) :
    wpAny (model prog w) A (subscriptTail value slice (.str x t) (.ref s.heap.objs.size)) Q E { s with heap := s.heap.push { cls := .type "slice", data := .fields #[.int (-j) uj, .none, .none] } } := by
  refine slice_strN_sn F N (fun h' t' k F' N' => ?_) hs ht (by rw [length_cs hx, sizeLine_eq]; omega)
  refine h _ _ _ _ F' N' ?_
  have e : Txt.slice x (some (-j)) none = StrLaws.sliceText x (some (-j)) none := rfl
  rw [e, StrLaws.sliceText_from_neg (by omega) (by rw [length_cs hx]; omega), length_cs hx]
  show List.take _ (List.drop _ x.cps.toList) = _
  rw [hx]
  have e1 : (-j + (l.length : Int)).toNat = l.length - j.toNat := by omega
  rw [e1]
  refine List.take_of_length_le ?_
  rw [List.length_drop]
  omega
theorem slice_from_cs {value slice : PySem.Expr} {x : Str} {t uj : Tok} {l : List Nat} {j : Int} {Q : Value → Shared → Prop} (F : Fr h₀ L s.heap m) (N : News h₀ L s.heap news) (hx : x.cps.toList = l) (hl : l.length ≤ 100000) (h0 : 0 ≤ j) (h1 : j ≤ (l.length : Int))
    (h : ∀ v u h' tk, Fr h₀ L h' m → News h₀ L h' news → v.cps.toList = l.drop j.toNat → Q (.str v u) { s with heap := h', toks := tk })
    (hs : subscripted slice false (.str x t) (.ref s.heap.objs.size) = operate [.ref s.heap.objs.size, .str x t] (getItem (.str x t) (.ref s.heap.objs.size)) := by with_unfolding_all rfl)
    (ht : ∀ r, letTemporaryGo value (.str x t) r = pure () := by intro _; with_unfolding_all rfl) :
    wpAny (model prog w) A (subscriptTail value slice (.str x t) (.ref s.heap.objs.size)) Q E { s with heap := s.heap.push { cls := .type "slice", data := .fields #[.int j uj, .none, .none] } } := by
  refine slice_strN_sn F N (fun h' t' k F' N' => ?_) hs ht (by rw [length_cs hx, sizeLine_eq]; omega)
  refine h _ _ _ _ F' N' ?_
  rw [slice_from_eq h0 (by rw [length_cs hx]; omega) rfl]
  show List.take _ (List.drop _ x.cps.toList) = _
  rw [hx, length_cs hx]
  refine List.take_of_length_le ?_
  rw [List.length_drop]
  omega

theorem find_cs {x y : Str} {c : Nat} {l1 l2 : List Nat} (hx : x.cps.toList = l1 ++ c :: l2) (hy : y = ⟨#[c]⟩) (hc : c ∉ l1) : Txt.find x y = (l1.length : Int) := by
  have hat : ∀ i, StrLaws.At x y x.length i ↔ x.cps.toList[i]? = some c := by
    intro i
    unfold StrLaws.At
    rw [StrLaws.subAt_eq, hy]
    have hl : x.length = x.cps.toList.length := Array.length_toList.symm
    have h1 : (⟨#[c]⟩ : Str).length = 1 := rfl
    rw [h1, hl]
    show i + 1 ≤ _ ∧ (List.take 1 (List.drop i x.cps.toList) == [c]) = true ↔ _
    rw [beq_iff_eq]
    constructor
    · rintro ⟨ha, hb⟩
      rw [List.take_one] at hb
      rw [List.head?_drop] at hb
      cases hq : x.cps.toList[i]? with
      | none => rw [hq] at hb; simp at hb
      | some d => rw [hq] at hb; simp at hb; rw [hb]
    · intro hq
      refine ⟨?_, ?_⟩
      · have := List.getElem?_eq_some_iff.mp hq
        obtain ⟨hlt, _⟩ := this
        omega
      · rw [List.take_one, List.head?_drop, hq]
        rfl
  rcases find_whole x y with ⟨_, h⟩ | ⟨i, e, h, hn⟩
  · exact absurd ((hat l1.length).mpr (by rw [hx]; simp)) (h _)
  · rw [e]
    have h1 := (hat i).mp h
    rw [hx] at h1
    rcases Nat.lt_trichotomy i l1.length with hlt | heq | hgt
    · rw [List.getElem?_append_left hlt] at h1
      exact absurd (List.mem_of_getElem? h1) hc
    · rw [heq]
    · exact absurd ((hat l1.length).mpr (by rw [hx]; simp)) (hn _ hgt)
theorem index_cs {x y : Str} {t u : Tok} {c : Nat} {l1 l2 : List Nat} {Q : Value → Shared → Prop} (hA : A.handled = none) (hx : x.cps.toList = l1 ++ c :: l2) (hy : y = ⟨#[c]⟩) (hc : c ∉ l1) (h : ∀ u tk, Q (.int (l1.length : Int) u) { s with toks := tk }) :
    wpAny (model prog w) A (call (.builtin "str.index") [.str x t, .str y u]) Q E s := by
  have e := find_cs hx hy hc
  refine index_or hA (fun h' => ?_) (fun _ _ => ?_)
  · rw [e] at h'; omega
  · rw [e]; exact h _ _
end
end TStrR
end Mine

namespace Mine
section TText1W

def sgnL (T : Int) : List Nat := if T < 0 then [45] else []
def padL (n P : Nat) : List Nat := List.replicate (P + 1 - (digs n).length) 48 ++ digs n
def bodyL (n P : Nat) : List Nat := if 0 < P then (padL n P).take ((padL n P).length - P) ++ [46] ++ (padL n P).drop ((padL n P).length - P) else digs n
theorem sgn_len (T : Int) : (sgnL T).length ≤ 1 := by unfold sgnL; split <;> simp
theorem dot_cs : (Str.ofString ".").cps.toList = [46] := by decide
def textL (T P : Int) : List Nat := sgnL T ++ bodyL T.natAbs P.toNat

set_option maxRecDepth 100000 in
set_option maxHeartbeats 2000000 in
theorem c_sgn (w : World) (x : Int) (t : Tok) (rest : List (Addr × Obj)) : Tag PySem.Challenge.rw_nn0197_01 hd.heap_39 (Cal w 126 [.int x t] rest 1 8 (fun r news' => (∃ v u, r = .str v u ∧ v.cps.toList = sgnL x) ∧ news' = rest)) := by
  k_fill
  unfold Tag Cal
  intros
  rename_i hret
  refine wpAny_call ?_
  k_dflt cell_enter
  k_steps
  · exact hret _ _ _ _ (by k_asm) (by k_asm) ⟨⟨_, _, rfl, by rw [sgnL, if_pos (by assumption)]; decide⟩, rfl⟩
  · exact hret _ _ _ _ (by k_asm) (by k_asm) ⟨⟨_, _, rfl, by rw [sgnL, if_neg (by assumption)]; decide⟩, rfl⟩

theorem use_sign {w : World} {T : Int} {tt : Tok} {news : List (Addr × Obj)}
   {p : Program} {loose : List Str} {mean : ExcName → Option Value} {mg mb : Str → Option Value} {dp un : Nat} {gd : Option (List Code)} {cn : Str} {cs : Scope} {a : Addr} {ccd : Value} {cl : List (Str × Addr)} {outer : List Env} {A₀ : Around} {base h₀ : Heap} {L : Addr} {m : Str → Option Value} {s : Shared} {Q E : Value → Shared → Prop}
   (B : Below A₀ base outer h₀) (F : Fr h₀ L s.heap m) (X : (hd.heap_39 w.params).In h₀) (N : News h₀ L s.heap news) (Tp : Top p loose mean mg mb h₀) (hk : cs.kind = .function)
   (hd : dp + 1 < recursionLimit) (hu : un + 8 < cLine)
   (h : ∀ v u h' tk', Fr h₀ L h' m → News h₀ L h' news → v.cps.toList = sgnL T → Q (.str v u) { s with heap := h', toks := tk' }) :
   wpAny (model PySem.Challenge.rw_nn0197_01.row.prog w) (ktrTop dp un gd cn cs L a ccd cl outer) (call (.ref 126) [.int T tt]) Q E s := by
  have C := c_sgn w T tt news
  unfold Tag Cal at C
  refine C p loose mean mg mb dp un gd cn cs a ccd cl outer A₀ base h₀ L m s Q E B F X N Tp hk hd hu ?_
  rintro r news' h' tk' F' N' ⟨⟨v, u, rfl, hv⟩, rfl⟩
  exact h v u h' tk' F' N' hv

local macro_rules | `(tactic| lcg_off) => `(tactic| ((try simp only [List.length_append, List.length_replicate, List.length_take, List.length_drop, List.length_cons, List.length_nil]); omega))
local macro_rules | `(tactic| walk_at $s:str) => `(tactic| k_extra $s)

set_option maxRecDepth 100000 in
set_option maxHeartbeats 2000000 in
theorem c_text (w : World) (T P : Int) (x dx : Addr) (k1 k2 t1 t2 : Tok) (rest : List (Addr × Obj)) (hp0 : 0 ≤ P) (hp1 : P ≤ 40) (ht : T.natAbs < 10 ^ 40)  :
   Tag PySem.Challenge.rw_nn0197_01 hd.heap_39 (Cal w 105 [.ref x] ((x, instObj 115 dx) :: (dx, decD w T P k1 k2 t1 t2) :: rest) 2 200 (fun r news' => 
     (∃ v u, r = .str v u ∧ v.cps.toList = textL T P) ∧ news' = (x, instObj 115 dx) :: (dx, decD w T P k1 k2 t1 t2) :: rest)) := by
  have hdl := digs_len ht (by decide)
  have hd41 : T.natAbs < 10 ^ 41 := by omega
  have hsl := sgn_len T
  clear ht
  w_top off
  k_with_none
  k_with "call builtin:abs" => (k_here; (with_reducible refine abs_cs ?_); intro _ _)
  k_with "call type:str" => (k_here; (refine' str_cs ?k1_z ?_; (case k1_z => omega)); intro v u tk hv)
  k_with "call builtin:len" => (k_here; (with_reducible show wpAny _ _ (call (Value.builtin "len") [Value.str _ _]) _ _ _); (refine' len_cs ?k1_z ?k2_z ?_; (case k1_z => assumption); (case k2_z => lcg_off)); intro u tk)
  k_with "binaryOp Mult str int" => (k_here; (refine' mul_cs (c := 48) ?k1_z ?k2_z ?k3_z ?_; (case k1_z => decide); (case k2_z => lcg_off); (case k3_z => lcg_off)); intro v u tk hv)
  k_with "binaryOp Add str str" => (k_here; (refine' add_cs ?k1_z ?k2_z ?k3_z ?k4_z ?_; (case k1_z => first | assumption | exact dot_cs); (case k2_z => first | assumption | exact dot_cs); (case k3_z => lcg_off); (case k4_z => lcg_off)); intro v u tk hv)
  k_with "subscriptTail Name Slice str ref" => (k_here; (with_reducible show wpAny _ _ (subscriptTail _ (PySem.Expr.Slice none (some _) none _) (Value.str _ _) (Value.ref _)) _ _ _); k_dflt (refine' slice_upto_neg ?F_z ?N_z ?hx_z ?hl_z ?h0_z ?h1_z ?_ ?s_z ?t_z; (case F_z => k_asm); (case N_z => k_asm); (case hx_z => assumption); (case hl_z => lcg_off); (case h0_z => lcg_off); (case h1_z => lcg_off); (case s_z => with_unfolding_all rfl); (case t_z => (intro _; with_unfolding_all rfl))); intro v u hH tk F' N' hv)
  k_with "subscriptTail Name Slice str ref" => (k_here; (with_reducible show wpAny _ _ (subscriptTail _ (PySem.Expr.Slice (some _) none none _) (Value.str _ _) (Value.ref _)) _ _ _); k_dflt (refine' slice_from_neg_cs ?F_z ?N_z ?hx_z ?hl_z ?h0_z ?h1_z ?_ ?s_z ?t_z; (case F_z => k_asm); (case N_z => k_asm); (case hx_z => assumption); (case hl_z => lcg_off); (case h0_z => lcg_off); (case h1_z => lcg_off); (case s_z => with_unfolding_all rfl); (case t_z => (intro _; with_unfolding_all rfl))); intro v u hH tk F' N' hv)
  k_with "call ref" => (k_here; (with_reducible show wpAny _ _ (call (Value.ref 126) [Value.int _ _]) _ _ _); k_dflt (refine' use_sign ?k1_z ?k2_z ?k3_z ?k4_z ?k5_z ?kK_z ?kd_z ?ku_z ?_; (case k1_z => k_asm); (case k2_z => k_asm); (case k3_z => k_asm); (case k4_z => k_asm); (case k5_z => k_asm); (case kK_z => first | exact rfl | assumption); (case kd_z => ktr_room); (case ku_z => ktr_units)); intro v u hH tkN F' N' hv)
  k_fill
  unfold Tag Cal
  intros
  rename_i hret
  refine wpAny_call ?_
  k_dflt cell_enter
  k_steps
  · refine' hret _ _ _ _ (by k_asm) (by k_asm) ⟨⟨_, _, rfl, Eq.trans (by assumption) ?_⟩, rfl⟩
    have hp : 0 < P.toNat := by omega
    have e : (P + 1 - ((digs T.natAbs).length : Int)).toNat = P.toNat + 1 - (digs T.natAbs).length := by omega
    rw [textL, bodyL, if_pos hp, padL, e]
  · refine' hret _ _ _ _ (by k_asm) (by k_asm) ⟨⟨_, _, rfl, Eq.trans (by assumption) ?_⟩, rfl⟩
    have hp : ¬ 0 < P.toNat := by omega
    rw [textL, bodyL, if_neg hp]
end TText1W
end Mine

namespace Mine
section TLeast1
open PySem.NumText

theorem digit_char {c : Nat} (h : 48 ≤ c ∧ c ≤ 57) : (Char.ofNat c).toNat = c := by
  obtain ⟨h1, h2⟩ := h
  have : c = 48 ∨ c = 49 ∨ c = 50 ∨ c = 51 ∨ c = 52 ∨ c = 53 ∨ c = 54 ∨ c = 55 ∨ c = 56 ∨ c = 57 := by omega
  rcases this with rfl | rfl | rfl | rfl | rfl | rfl | rfl | rfl | rfl | rfl <;> rfl
theorem digits_chars : ∀ {cs : List Nat}, AllDigits cs → (cs.map Char.ofNat).map Char.toNat = cs
  | [], _ => rfl
  | c :: r, h => by
    rw [List.map_cons, List.map_cons, digits_chars h.tail, digit_char h.head]
/-- every number has its figures -/
theorem figures (n : Nat) : ∃ cs, AllDigits cs ∧ cs ≠ [] ∧ digitsVal cs = n ∧ (n = 0 ∧ cs = [48] ∨ ∃ c r, cs = c :: r ∧ 49 ≤ c) := by
  induction n using Nat.strongRecOn with
  | ind n ih =>
    by_cases h : n < 10
    · refine ⟨[48 + n], by intro c hc; simp at hc; omega, by simp, by simp [digitsVal], ?_⟩
      by_cases h0 : n = 0
      · exact .inl ⟨h0, by rw [h0]⟩
      · exact .inr ⟨48 + n, [], rfl, by omega⟩
    · obtain ⟨cs, h1, h2, h3, h4⟩ := ih (n / 10) (by omega)
      refine ⟨cs ++ [48 + n % 10], ?_, by simp, ?_, ?_⟩
      · intro c hc
        rcases List.mem_append.mp hc with hc | hc
        · exact h1 c hc
        · simp at hc; omega
      · rw [digitsVal_snoc, h3]; omega
      · rcases h4 with ⟨h4, _⟩ | ⟨c, r, rfl, hc⟩
        · omega
        · exact .inr ⟨c, r ++ [48 + n % 10], rfl, hc⟩
theorem digs_spec (n : Nat) : AllDigits (digs n) ∧ digs n ≠ [] ∧ digitsVal (digs n) = n ∧ (n = 0 ∧ digs n = [48] ∨ ∃ c r, digs n = c :: r ∧ 49 ≤ c) := by
  obtain ⟨cs, h1, h2, h3, h4⟩ := figures n
  have e : digs n = cs := by
    unfold digs
    have := toDigits_all cs h1
    rw [h3] at this
    rw [this]
    rcases h4 with ⟨_, rfl⟩ | ⟨c, r, rfl, hc⟩
    · rfl
    · have hd : List.dropWhile (fun x => x == 48) (c :: r) = c :: r := by
        rw [List.dropWhile_cons, if_neg (by rw [beq_iff_eq]; omega)]
      rw [hd]
      exact digits_chars h1
  rw [e]
  exact ⟨h1, h2, h3, h4⟩
/-- the part of the text behind the sign, ahead of the point and behind it -/
def headL (n P : Nat) : List Nat := (padL n P).take ((padL n P).length - P)
def tailL (n P : Nat) : List Nat := (padL n P).drop ((padL n P).length - P)
theorem padL_digits (n P : Nat) : AllDigits (padL n P) := by
  intro c hc
  rcases List.mem_append.mp hc with hc | hc
  · have := (List.mem_replicate.mp hc).2; omega
  · exact (digs_spec n).1 c hc
theorem textL_eq {T P : Int} (hP : 0 < P) : textL T P = (sgnL T ++ headL T.natAbs P.toNat) ++ 46 :: tailL T.natAbs P.toNat := by
  unfold textL bodyL
  rw [if_pos (by omega)]
  simp [headL, tailL]
theorem no_point (T : Int) (P : Nat) : 46 ∉ sgnL T ++ headL T.natAbs P := by
  intro h
  rcases List.mem_append.mp h with h | h
  · unfold sgnL at h
    split at h <;> simp at h
  · have := padL_digits T.natAbs P 46 (List.mem_of_mem_take h)
    omega
def leastL (T P : Int) : List Nat := if (10 : Int) ^ P.toNat ≤ (T.natAbs : Int) ∨ T = 0 then textL T P else sgnL T ++ 46 :: tailL T.natAbs P.toNat
end TLeast1
end Mine

namespace Mine
section TLeast2W

theorem use_text {w : World} {T P : Int} {x dx : Addr} {k1 k2 t1 t2 : Tok} {news : List (Addr × Obj)}
   {p : Program} {loose : List Str} {mean : ExcName → Option Value} {mg mb : Str → Option Value} {dp un : Nat} {gd : Option (List Code)} {cn : Str} {cs : Scope} {a : Addr} {ccd : Value} {cl : List (Str × Addr)} {outer : List Env} {A₀ : Around} {base h₀ : Heap} {L : Addr} {m : Str → Option Value} {s : Shared} {Q E : Value → Shared → Prop}
   (B : Below A₀ base outer h₀) (F : Fr h₀ L s.heap m) (X : (hd.heap_39 w.params).In h₀) (N : News h₀ L s.heap news) (Tp : Top p loose mean mg mb h₀) (hk : cs.kind = .function)
   (m1 : (x, instObj 115 dx) ∈ news) (m2 : (dx, decD w T P k1 k2 t1 t2) ∈ news) (hp0 : 0 ≤ P) (hp1 : P ≤ 40) (ht : T.natAbs < 10 ^ 40)
   (hd : dp + 2 < recursionLimit) (hu : un + 200 < cLine)
   (h : ∀ v u h' tk', Fr h₀ L h' m → News h₀ L h' news → v.cps.toList = textL T P → Q (.str v u) { s with heap := h', toks := tk' }) :
   wpAny (model PySem.Challenge.rw_nn0197_01.row.prog w) (ktrTop dp un gd cn cs L a ccd cl outer) (call (.ref 105) [.ref x]) Q E s := by
  have C := c_text w T P x dx k1 k2 t1 t2 news hp0 hp1 ht
  unfold Tag Cal at C
  refine C p loose mean mg mb dp un gd cn cs a ccd cl outer A₀ base h₀ L m s Q E B F X ?_ Tp hk hd hu ?_
  · intro q hq
    rcases List.mem_cons.mp hq with rfl | hq
    · exact N _ m1
    rcases List.mem_cons.mp hq with rfl | hq
    · exact N _ m2
    · exact N _ hq
  · rintro r news' h' tk' F' N' ⟨⟨v, u, rfl, hv⟩, rfl⟩
    exact h v u h' tk' F' (cb_drop N' fun q hq => List.mem_cons_of_mem _ (List.mem_cons_of_mem _ hq)) hv

theorem powL {prog : Program} {w : World} {A : Around} {E : Value → Shared → Prop} {s : Shared} {Q : Value → Shared → Prop} {t u : Tok} {n : Int} (h0 : 0 ≤ n) (h1 : n ≤ 1000) (h : ∀ (k : Int) v tk, k = 10 ^ n.toNat → Q (.int k v) { s with toks := tk }) : wpAny (model prog w) A (binaryOp .Pow (.int 10 t) (.int n u)) Q E s :=
  pow_int_small h0 (by omega) (by decide) (h _ _ _ rfl)
theorem least_pos {T P k : Int} (hk : k = 10 ^ P.toNat) (h : ¬ k ≤ (T.natAbs : Int)) (hT : T ≠ 0) : 0 < P := by
  rcases Int.lt_or_le 0 P with h0 | h0
  · exact h0
  · have : P.toNat = 0 := by omega
    rw [this] at hk
    simp at hk
    omega
theorem drop_head (l1 l2 : List Nat) : (l1 ++ l2).drop (l1.length : Int).toNat = l2 := by simp

theorem padL_len (n P : Nat) : (padL n P).length ≤ P + 1 + (digs n).length := by
  unfold padL; rw [List.length_append, List.length_replicate]; omega
theorem textL_len {T P : Int} (h : (digs T.natAbs).length ≤ 40) (hp : P ≤ 40) : (textL T P).length ≤ 1000 := by
  have h1 := sgn_len T
  have h2 := padL_len T.natAbs P.toNat
  unfold textL bodyL
  split <;> simp <;> omega
theorem tailL_len (n P : Nat) (h : (digs n).length ≤ 40) (hp : P ≤ 40) : (46 :: tailL n P).length ≤ 1000 := by
  have h2 := padL_len n P
  unfold tailL; rw [List.length_cons, List.length_drop]; omega

local macro_rules | `(tactic| lcg_off) => `(tactic| first | assumption | omega | ((try simp only [List.length_append, List.length_replicate, List.length_take, List.length_drop, List.length_cons, List.length_nil]); omega))
local macro_rules | `(tactic| walk_at $s:str) => `(tactic| k_extra $s)
set_option maxRecDepth 100000 in
set_option maxHeartbeats 2000000 in
theorem c_least (w : World) (T P : Int) (x dx : Addr) (k1 k2 t1 t2 : Tok) (rest : List (Addr × Obj)) (hp0 : 0 ≤ P) (hp1 : P ≤ 40) (ht : T.natAbs < 10 ^ 40)  :
   Tag PySem.Challenge.rw_nn0197_01 hd.heap_39 (Cal w 112 [.ref x] ((x, instObj 115 dx) :: (dx, decD w T P k1 k2 t1 t2) :: rest) 3 300 (fun r news' => 
     (∃ v u, r = .str v u ∧ v.cps.toList = leastL T P) ∧ news' = (x, instObj 115 dx) :: (dx, decD w T P k1 k2 t1 t2) :: rest)) := by
  have hdl := digs_len ht (by decide)
  have htl := textL_len hdl hp1
  have hsl := sgn_len T
  have htt := tailL_len T.natAbs P.toNat hdl (by omega)
  w_top off
  k_with_none
  k_with "call builtin:abs" => (k_here; (with_reducible refine abs_cs ?_); intro _ _)
  k_with "binaryOp Pow int int" => (k_here; (refine' powL ?k1_z ?k2_z ?_; (case k1_z => omega); (case k2_z => omega)); intro k v tk hk)
  k_with "call ref" => (k_here; k_dflt (show wpAny _ _ (call (Value.ref 105) [Value.ref _]) _ _ _); k_dflt (refine' use_text ?k1_z ?k2_z ?k3_z ?k4_z ?k5_z ?kK_z ?m1_z ?m2_z ?p0_z ?p1_z ?pt_z ?kd_z ?ku_z ?_; (case k1_z => k_asm); (case k2_z => k_asm); (case k3_z => k_asm); (case k4_z => k_asm); (case k5_z => k_asm); (case kK_z => first | exact rfl | assumption); (case m1_z => k_mem); (case m2_z => k_mem); (case p0_z => assumption); (case p1_z => assumption); (case pt_z => assumption); (case kd_z => ktr_room); (case ku_z => ktr_units)); intro v u hH tkN F' N' hv)
  k_with "call ref" => (k_here; (with_reducible show wpAny _ _ (call (Value.ref 126) [Value.int _ _]) _ _ _); k_dflt (refine' use_sign ?k1_z ?k2_z ?k3_z ?k4_z ?k5_z ?kK_z ?kd_z ?ku_z ?_; (case k1_z => k_asm); (case k2_z => k_asm); (case k3_z => k_asm); (case k4_z => k_asm); (case k5_z => k_asm); (case kK_z => first | exact rfl | assumption); (case kd_z => ktr_room); (case ku_z => ktr_units)); intro v u hH tkN F' N' hv)
  k_with "call builtin:str.index" => (k_here; (have hP := least_pos (by assumption) (by assumption) (by assumption)); (have hvx := Eq.trans (by assumption) (textL_eq hP)); k_dflt (refine' index_cs (c := 46) ?k1_z hvx ?k2_z (no_point _ _) ?_; (case k1_z => rfl); (case k2_z => decide)); intro u tk)
  k_with "subscriptTail Name Slice str ref" => (k_here; (with_reducible show wpAny _ _ (subscriptTail _ (PySem.Expr.Slice (some _) none none _) (Value.str _ _) (Value.ref _)) _ _ _); k_dflt (refine' slice_from_cs ?F_z ?N_z ?hx_z ?hl_z ?h0_z ?h1_z ?_ ?s_z ?t_z; (case F_z => k_asm); (case N_z => k_asm); (case hx_z => assumption); (case hl_z => (rw [← textL_eq (by assumption)]; omega)); (case h0_z => omega); (case h1_z => lcg_off); (case s_z => with_unfolding_all rfl); (case t_z => (intro _; with_unfolding_all rfl))); intro v u hH tk F' N' hv; rw [drop_head] at hv)
  k_with "binaryOp Add str str" => (k_here; (refine' add_cs ?k1_z ?k2_z ?k3_z ?k4_z ?_; (case k1_z => assumption); (case k2_z => assumption); (case k3_z => lcg_off); (case k4_z => lcg_off)); intro v u tk hv)
  k_fill
  unfold Tag Cal
  intros
  rename_i hret
  refine wpAny_call ?_
  k_dflt cell_enter
  k_steps
  · refine' hret _ _ _ _ (by k_asm) (by k_asm) ⟨⟨_, _, rfl, Eq.trans (by assumption) ?_⟩, rfl⟩
    rename _ = (10 : Int) ^ _ => hk
    rename _ ≤ _ => hle
    rw [hk] at hle
    rw [leastL, if_pos (.inl hle)]
  · refine' hret _ _ _ _ (by k_asm) (by k_asm) ⟨⟨_, _, rfl, Eq.trans (by assumption) ?_⟩, rfl⟩
    rw [leastL, if_pos (.inr (by assumption))]
  · refine' hret _ _ _ _ (by k_asm) (by k_asm) ⟨⟨_, _, rfl, Eq.trans (by assumption) ?_⟩, rfl⟩
    rename _ = (10 : Int) ^ _ => hk
    rename ¬ _ ≤ _ => hle
    rename T ≠ 0 => hT
    rw [hk] at hle
    rw [leastL, if_neg (fun h => h.elim hle hT)]
end TLeast2W
end Mine

namespace Mine
section TEnum1
open PySem.Spec PyProof.Rows.LCg
set_option maxHeartbeats 1000000

/-- the end of a turn: what the ledger bears is kept -/
def EnEnd (h₀ : Heap) (L : Addr) (m : Str → Option Value) (s₁ : Shared) (led : List (Addr × Obj)) (rest : Value → Prop) (y : Value) (s₂ : Shared) : Prop :=
  ∃ h' tk, s₂ = { s₁ with heap := h', toks := tk } ∧ Fr h₀ L h' m ∧ News h₀ L h' led ∧ rest y
theorem EnEnd.intro {h₀ : Heap} {L : Addr} {m : Str → Option Value} {s₁ : Shared} {led all : List (Addr × Obj)} {rest : Value → Prop} {y : Value} {h' : Heap} {tk : Nat} (F : Fr h₀ L h' m) (N : News h₀ L h' all) (sub : ∀ p ∈ led, p ∈ all) (r : rest y) :
    EnEnd h₀ L m s₁ led rest y { s₁ with heap := h', toks := tk } := ⟨h', tk, rfl, F, fun p hp => N p (sub p hp), r⟩

section
variable {prog : Program} {w : World} {A : Around} {E : Value → Shared → Prop} {s : Shared} {h₀ : Heap} {L : Addr} {m : Str → Option Value} {env : Env}

theorem off1_of {D : Addr} : ∀ {l : List (Addr × Obj)}, (∀ p ∈ l, p.1 ≠ D) → Off1 D l
  | [], _ => trivial
  | p :: _, h => ⟨h p List.mem_cons_self, off1_of fun q hq => h q (List.mem_cons_of_mem _ hq)⟩

/-- what holds between the turns -/
structure EnSt (h₀ : Heap) (L : Addr) (m : Str → Option Value) (e it l C D : Addr) (items : Array Value) (news : List (Addr × Obj)) (i : Nat) (ys : List Value) (h : Heap) : Prop where
  en : ∃ old, IsEnum h e it i old
  li : h.IsListIter it l i
  ls : h.IsList l items
  fr : Fr h₀ L h m
  ns : ∃ m', h.Ns C m'
  nw : News h₀ L h ((D, lst ys) :: news)

structure EnApart (h₀ : Heap) (L e it l C D : Addr) (news : List (Addr × Obj)) : Prop where
  ei : e ≠ it
  le : l ≠ e
  lt : l ≠ it
  Le : L ≠ e
  Lt : L ≠ it
  e0 : h₀.get? e = none
  t0 : h₀.get? it = none
  C0 : h₀.get? C = none
  D0 : h₀.get? D = none
  CL : C ≠ L
  DL : D ≠ L
  CD : C ≠ D
  eC : e ≠ C
  eD : e ≠ D
  tC : it ≠ C
  tD : it ≠ D
  lC : l ≠ C
  lD : l ≠ D
  off : ∀ p ∈ news, p.1 ≠ e ∧ p.1 ≠ it ∧ p.1 ≠ C ∧ p.1 ≠ D

/-- an object of e, of it stands in the next heap: so the iterator stands there -/
theorem EnSt.after {e it l C D : Addr} {items : Array Value} {news : List (Addr × Obj)} {i : Nat} {ys ys' : List Value} {h h' : Heap} {oe ot oC : Obj} (st : EnSt h₀ L m e it l C D items news i ys h) (hl : SrcAt h₀ l items news)
    (he : h.get? e = some oe) (ht : h.get? it = some ot) (hC : h.get? C = some oC)
    (F' : Fr h₀ L h' m) (N' : News h₀ L h' ((e, oe) :: (it, ot) :: (C, oC) :: (D, lst ys') :: news)) : EnSt h₀ L m e it l C D items news i ys' h' := by
  obtain ⟨⟨old, en⟩, li, ls, fr, ⟨m', ns⟩, nw⟩ := st
  have z1 := (N' (e, oe) (by simp)).1
  have z2 := (N' (it, ot) (by simp)).1
  have z3 := (N' (C, oC) (by simp)).1
  have Nn : News h₀ L h' news := fun p hp => N' p (by simp [hp])
  refine ⟨⟨old, ?_⟩, ?_, hl.list F'.keep Nn, F', ⟨m', ?_⟩, fun p hp => N' p (by rcases List.mem_cons.mp hp with rfl | hp <;> simp [*])⟩
  · have en' : h.get? e = _ := en
    rw [he] at en'
    show h'.get? e = _
    rw [z1, en']
  · obtain ⟨o, ho, r⟩ := li
    rw [ht] at ho
    cases ho
    exact ⟨ot, z2, r⟩
  · exact ns.at' fun o ho => by rw [hC] at ho; cases ho; exact z3

theorem en_next {a b : Str} {pa pb tp : Pos} {kk : Nat} {e it l C D : Addr} {vs : List Value} {ks : List Int} {news : List (Addr × Obj)} {i : Nat} {ys : List Value} {scope : Scope} {cl : List (Str × Addr)} {K : Unit → Shared → Prop} {R : Shared → Prop} {N : Value → Shared → Prop}
    (hh : A.handled = none) (hab : ¬ a = b) (hi : IntsAre vs ks) (hxa : scope.names.lookup a = some .local) (hxb : scope.names.lookup b = some .local) (hkind : scope.kind = .function)
    (ap : EnApart h₀ L e it l C D news) (hl : SrcAt h₀ l vs.toArray news) (st : EnSt h₀ L m e it l C D vs.toArray news i ys s.heap)
    (turn : ∀ (c : Int) (t u : Tok) (h : Heap) (tk : Nat) (oe ot oC : Obj) (m₂ : Str → Option Value), ks[i]? = some c → NsObj oC m₂ → m₂ a = some (.int (i : Int) t) → m₂ b = some (.int c u) → Fr h₀ L h m → News h₀ L h ((e, oe) :: (it, ot) :: (C, oC) :: (D, lst ys) :: news) →
      (∀ ys' h', Fr h₀ L h' m → News h₀ L h' ((e, oe) :: (it, ot) :: (C, oC) :: (D, lst ys') :: news) → EnSt h₀ L m e it l C D vs.toArray news (i + 1) ys' h') → K () { s with heap := h, toks := tk })
    (done : ∀ h tk, i = ks.length → Fr h₀ L h m → (∃ m', h.Ns C m') → News h₀ L h ((D, lst ys) :: news) → R { s with heap := h, toks := tk }) (hle : i ≤ ks.length) :
    wpAny (model prog w) A (pyNext (.ref e)) (fun r s₁ => match r with
      | none => R s₁
      | some v => wpAny (model prog w) A (letOwnedTupleGo (.Tuple [.Name a pa, .Name b pb] kk tp) (.ref e) v) (fun _ s₀ => wpAny (model prog w) A (assign (.Tuple [.Name a pa, .Name b pb] kk tp) (compEnvC scope cl C env) v) K N s₀) N s₁) N s := by
  have W := KTurns.ofWalksU (elts := [.Name a pa, .Name b pb]) (k := kk) (pos := tp) (WalksT.enumerate (prog := prog) (w := w) hh e it l ap.ei ap.le ap.lt vs.toArray).toU
  have hsz : vs.toArray.size = ks.length := by rw [List.size_toArray, hi.length]
  have old : ∀ x : Addr, h₀.get? x ≠ none → x ∉ [e, it] := by
    intro x hx hm
    rcases List.mem_cons.mp hm with rfl | hm
    · exact hx ap.e0
    · rw [List.mem_singleton.mp hm] at hx; exact hx ap.t0
  obtain ⟨en, li, ls, fr, ⟨m', ns⟩, nw⟩ := st
  -- what is kept over the iterator's own writes
  have keepF : ∀ h' : Heap, (∀ x o, x ∉ [e, it] → s.heap.get? x = some o → h'.get? x = some o) → Fr h₀ L h' m := fun h' hk =>
    ⟨fr.ns.at' fun o q => hk L o (by simp [ap.Le, ap.Lt]) q, fun x o q => hk x o (old x (by rw [q]; simp)) (fr.keep x o q), fr.above⟩
  have keepN : ∀ h' : Heap, (∀ x o, x ∉ [e, it] → s.heap.get? x = some o → h'.get? x = some o) → News h₀ L h' ((D, lst ys) :: news) := fun h' hk p hp => by
    refine ⟨hk _ _ ?_ (nw p hp).1, (nw p hp).2⟩
    rcases List.mem_cons.mp hp with rfl | hp
    · simp [Ne.symm ap.eD, Ne.symm ap.tD]
    · simp [(ap.off p hp).1, (ap.off p hp).2.1]
  rcases Nat.lt_or_ge i ks.length with hlt | hge
  · refine W.item i _ _ _ (by rw [hsz]; exact hlt) ⟨en, li, ls⟩ fun v h₂ tk₂ hMd hk₂ => ?_
    refine W.go i v _ _ _ hMd fun h₃ hP hst₃ hk₃ => ?_
    have hk : ∀ x o, x ∉ [e, it] → s.heap.get? x = some o → h₃.get? x = some o := fun x o hx q => hk₃ x o hx (hk₂ x o hx q)
    obtain ⟨T, vals, rfl, ⟨t, x, hx, rfl⟩, hT⟩ := hP
    obtain ⟨u, hu⟩ := hi.get i ks[i] (by simp [hlt])
    have hxv : x = .int ks[i] u := by
      have hx' : vs[i]? = some x := by simpa using hx
      rw [hu] at hx'
      exact (Option.some.inj hx').symm
    subst hxv
    have ns₃ : h₃.Ns C m' := ns.at' fun o q => hk C o (by simp [Ne.symm ap.eC, Ne.symm ap.tC]) q
    refine kcp_assign (env := compEnvC scope cl C env) hh hT (lookup_relabel_local hxa) (lookup_relabel_local hxb) (by simp [compEnvC, relabel, hkind]) ns₃ fun h₄ tk₄ hn₄ hs₄ => ?_
    have F₄ : Fr h₀ L h₄ m := by
      have F₃ := keepF h₃ hk
      exact ⟨F₃.ns.at' fun o q => hs₄ L o (Ne.symm ap.CL) q, fun x o q => hs₄ x o (fun y => by have y' : x = C := y; rw [y', ap.C0] at q; cases q) (F₃.keep x o q), F₃.above⟩
    obtain ⟨⟨old₃, en₃⟩, li₃, ls₃⟩ := hst₃
    have en₄ : IsEnum h₄ e it ((i + 1 : Nat) : Int) old₃ := hs₄ e _ ap.eC en₃
    have li₄ : h₄.IsListIter it l (i + 1) := li₃.at fun o q => hs₄ it o ap.tC q
    have ls₄ : h₄.IsList l vs.toArray := ls₃.at fun o q => hs₄ l o ap.lC q
    obtain ⟨oe, he⟩ : ∃ oe, h₄.get? e = some oe := ⟨_, en₄⟩
    obtain ⟨ot, ht⟩ : ∃ ot, h₄.get? it = some ot := by obtain ⟨o, q, _⟩ := li₄; exact ⟨o, q⟩
    obtain ⟨oC, hC, hoC⟩ := ns_obj hn₄
    have N₃ := keepN h₃ hk
    have N₄ : News h₀ L h₄ ((D, lst ys) :: news) := fun p hp => by
      refine ⟨hs₄ _ _ ?_ (N₃ p hp).1, (N₃ p hp).2⟩
      rcases List.mem_cons.mp hp with rfl | hp
      · exact Ne.symm ap.CD
      · exact (ap.off p hp).2.2.1
    have N₅ : News h₀ L h₄ ((e, oe) :: (it, ot) :: (C, oC) :: (D, lst ys) :: news) := fun p hp => by
      rcases List.mem_cons.mp hp with rfl | hp
      · exact ⟨he, Ne.symm ap.Le, ap.e0⟩
      rcases List.mem_cons.mp hp with rfl | hp
      · exact ⟨ht, Ne.symm ap.Lt, ap.t0⟩
      rcases List.mem_cons.mp hp with rfl | hp
      · exact ⟨hC, ap.CL, ap.C0⟩
      · exact N₄ p hp
    have st₄ : EnSt h₀ L m e it l C D vs.toArray news (i + 1) ys h₄ := ⟨⟨old₃, en₄⟩, li₄, ls₄, F₄, ⟨_, hn₄⟩, N₄⟩
    refine turn ks[i] t u h₄ _ oe ot oC _ (by simp [hlt]) hoC ?_ (by simp) F₄ N₅ fun ys' h' F' N' => st₄.after hl he ht hC F' N'
    rw [if_neg hab, if_pos rfl]
  · have hin : i = ks.length := Nat.le_antisymm hle hge
    refine W.done _ _ _ (by rw [hsz, ← hin]; exact ⟨en, li, ls⟩) fun h₂ tk₂ hk₂ => ?_
    exact done h₂ tk₂ hin (keepF h₂ hk₂) ⟨m', ns.at' fun o q => hk₂ C o (by simp [Ne.symm ap.eC, Ne.symm ap.tC]) q⟩ (keepN h₂ hk₂)

theorem en_append {e it l C D : Addr} {items : Array Value} {news : List (Addr × Obj)} {i : Nat} {ys : List Value} {y : Value} {h : Heap} {tk : Nat} {Q : Value → Shared → Prop} (ap : EnApart h₀ L e it l C D news) (hlen : ys.length ≤ sizeLine)
    (st : EnSt h₀ L m e it l C D items news i ys h) (h' : ∀ h₂, EnSt h₀ L m e it l C D items news i (ys ++ [y]) h₂ → Q .none { s with heap := h₂, toks := tk }) :
    wpAny (model prog w) A (call (.builtin "list.append") [.ref D, y]) Q E { s with heap := h, toks := tk } := by
  obtain ⟨⟨old, en⟩, li, ls, fr, ⟨m', ns⟩, nw⟩ := st
  refine append_at (hsz := by show ys.toArray.size ≤ sizeLine; rw [List.size_toArray]; exact hlen) (nw _ List.mem_cons_self).1 fun h₆ hs₆ hD₆ => ?_
  refine h' h₆ ⟨⟨old, hs₆.extBut e _ ap.eD en⟩, li.at fun o q => hs₆.extBut it o ap.tD q, ls.at fun o q => hs₆.extBut l o ap.lD q, fr.change hs₆ ap.DL ap.D0, ⟨m', ns.at' fun o q => hs₆.extBut C o ap.CD q⟩, fun p hp => ?_⟩
  rcases List.mem_cons.mp hp with rfl | hp
  · exact ⟨hD₆.trans (congrArg some (lst_snoc ys y)), ap.DL, ap.D0⟩
  · exact ⟨hs₆.extBut _ _ (ap.off p hp).2.2.2 (nw p (List.mem_cons_of_mem _ hp)).1, (nw p (List.mem_cons_of_mem _ hp)).2⟩

/-- the turns of a comprehension over enumerate, with a test -/
def EnTurnT (prog : Program) (w : World) (A : Around) (h₀ : Heap) (L : Addr) (m : Str → Option Value) (env : Env) (ct elt : PySem.Expr) (a b : Str) (scope : Scope) (cl : List (Str × Addr)) (s : Shared) (ks : List Int) (news : List (Addr × Obj)) (J : Nat → List Value → Prop) : Prop :=
  ∀ (i : Nat) (c : Int) (t u : Tok) (ys : List Value) (e it C D : Addr) (oe ot oC : Obj) (m₂ : Str → Option Value) (h : Heap) (tk : Nat) (E' : Value → Shared → Prop), ks[i]? = some c → J i ys → NsObj oC m₂ → m₂ a = some (.int (i : Int) t) → m₂ b = some (.int c u) → Fr h₀ L h m →
    News h₀ L h ((e, oe) :: (it, ot) :: (C, oC) :: (D, lst ys) :: news) →
    wpAny (model prog w) A (isTrue ct (compEnvC scope cl C env) (eval ct (compEnvC scope cl C env))) (fun ok s' => if ok = true then
      wpAny (model prog w) A (eval elt (compEnvC scope cl C env)) (EnEnd h₀ L m { s with heap := h, toks := tk } ((e, oe) :: (it, ot) :: (C, oC) :: (D, lst ys) :: news) (fun y => J (i + 1) (ys ++ [y]))) E' s'
      else EnEnd h₀ L m { s with heap := h, toks := tk } ((e, oe) :: (it, ot) :: (C, oC) :: (D, lst ys) :: news) (fun _ => J (i + 1) ys) .none s') E' { s with heap := h, toks := tk }
/-- without a test -/
def EnTurn (prog : Program) (w : World) (A : Around) (h₀ : Heap) (L : Addr) (m : Str → Option Value) (env : Env) (elt : PySem.Expr) (a b : Str) (scope : Scope) (cl : List (Str × Addr)) (s : Shared) (ks : List Int) (news : List (Addr × Obj)) (J : Nat → List Value → Prop) : Prop :=
  ∀ (i : Nat) (c : Int) (t u : Tok) (ys : List Value) (e it C D : Addr) (oe ot oC : Obj) (m₂ : Str → Option Value) (h : Heap) (tk : Nat) (E' : Value → Shared → Prop), ks[i]? = some c → J i ys → NsObj oC m₂ → m₂ a = some (.int (i : Int) t) → m₂ b = some (.int c u) → Fr h₀ L h m →
    News h₀ L h ((e, oe) :: (it, ot) :: (C, oC) :: (D, lst ys) :: news) →
      wpAny (model prog w) A (eval elt (compEnvC scope cl C env)) (EnEnd h₀ L m { s with heap := h, toks := tk } ((e, oe) :: (it, ot) :: (C, oC) :: (D, lst ys) :: news) (fun y => J (i + 1) (ys ++ [y]))) E' { s with heap := h, toks := tk }

theorem en_start {elt iter : PySem.Expr} {ifs : List PySem.Expr} {a b : Str} {pa pb tp : Pos} {kk : Nat} {scope : Scope} {cl : List (Str × Addr)} {pos : Pos} {e it l : Addr} {old : Value} {vs : List Value} {news : List (Addr × Obj)} {RR : Value → Addr → Result → Shared → Prop}
    (hcell : ∀ y ∈ scope.names, y.2 ≠ .cell) (hkind : scope.kind = .function)
    (ei : e ≠ it) (le : l ≠ e) (lt : l ≠ it) (Le : L ≠ e) (Lt : L ≠ it) (e0 : h₀.get? e = none) (t0 : h₀.get? it = none) (off : ∀ p ∈ news, p.1 ≠ e ∧ p.1 ≠ it)
    (en : IsEnum s.heap e it 0 old) (li : s.heap.IsListIter it l 0) (ls : s.heap.IsList l vs.toArray) (F : Fr h₀ L s.heap m) (N : News h₀ L s.heap news)
    (loop : ∀ C D h tk, EnApart h₀ L e it l C D news → EnSt h₀ L m e it l C D vs.toArray news 0 [] h →
      codeAny (model prog w) A (.compLoop (.ListComp elt [⟨.Tuple [.Name a pa, .Name b pb] kk tp, iter, ifs, 0⟩] scope pos) 0 (.ref e) (.ref D) (compEnvC scope cl C env)) (RR (.ref D) C) { s with heap := h, toks := tk }) :
    wpAny (model prog w) A (newList []) (fun acc s₃ => wpAny (model prog w) A (newFunctionEnv scope env.globals cl [] env.qual none .none (some env)) (fun cenv s₄ =>
      codeAny (model prog w) A (.compStart (.ListComp elt [⟨.Tuple [.Name a pa, .Name b pb] kk tp, iter, ifs, 0⟩] scope pos) 0 (.ref e) acc { cenv with scope := relabel scope env }) (RR acc cenv.locals) s₄) E s₃) E s := by
  refine wpAny_newObj_type (wpAny_newFunctionEnv hcell (by intro y hy; simp at hy) (fun h₁ hns₁ hsb₁ => ?_) hkind)
  dsimp only at hns₁ hsb₁ ⊢
  generalize hH2 : s.heap.push { cls := .type "list", dict := none, data := .seq ([] : List Value).toArray } = H2 at hns₁ hsb₁ ⊢
  have hC : H2.objs.size = s.heap.objs.size + 1 := by rw [← hH2, Heap.size_push]
  have below : ∀ x, x < s.heap.objs.size → x ≠ H2.objs.size ∧ x ≠ s.heap.objs.size := fun x hx => ⟨by rw [hC]; exact Nat.ne_of_lt (Nat.lt_succ_of_lt hx), Nat.ne_of_lt hx⟩
  have up : ∀ x o, s.heap.get? x = some o → h₁.get? x = some o := fun x o q => hsb₁.extBut x o (below x (Heap.lt_size q)).1 (Heap.get?_push_of_some _ (hH2 ▸ Heap.get?_push_of_some _ q))
  have none0 : ∀ x, s.heap.objs.size ≤ x → h₀.get? x = none := fun x hx => by
    cases q : h₀.get? x with
    | none => rfl
    | some o => exact absurd (Heap.lt_size (F.keep x o q)) (Nat.not_lt.mpr hx)
  have hDC : s.heap.objs.size ≠ H2.objs.size := by rw [hC]; exact Nat.ne_of_lt (Nat.lt_succ_self _)
  have helt := Heap.lt_size en
  have hilt : it < s.heap.objs.size := by obtain ⟨_, q, _⟩ := li; exact Heap.lt_size q
  have hllt : l < s.heap.objs.size := by obtain ⟨_, q, _⟩ := ls; exact Heap.lt_size q
  have hLlt : L < s.heap.objs.size := F.ns.lt
  have ap : EnApart h₀ L e it l H2.objs.size s.heap.objs.size news := ⟨ei, le, lt, Le, Lt, e0, t0, none0 _ (by rw [hC]; exact Nat.le_succ _), none0 _ (Nat.le_refl _), Ne.symm (below L hLlt).1, Ne.symm (below L hLlt).2, Ne.symm hDC,
    (below e helt).1, (below e helt).2, (below it hilt).1, (below it hilt).2, (below l hllt).1, (below l hllt).2, fun p hp => ⟨(off p hp).1, (off p hp).2, (below _ (Heap.lt_size (N p hp).1)).1, (below _ (Heap.lt_size (N p hp).1)).2⟩⟩
  have acc : h₁.get? s.heap.objs.size = some (lst []) := hsb₁.extBut _ _ hDC (Heap.get?_push_of_some _ (hH2 ▸ Heap.get?_push_size _ rfl))
  have st : EnSt h₀ L m e it l H2.objs.size s.heap.objs.size vs.toArray news 0 [] h₁ := ⟨⟨old, up _ _ en⟩, li.at fun o q => up it o q, ls.at fun o q => up l o q, F.keeps up, ⟨_, hns₁⟩, fun p hp => by
    rcases List.mem_cons.mp hp with rfl | hp
    · exact ⟨acc, ap.DL, ap.D0⟩
    · exact ⟨up _ _ (N p hp).1, (N p hp).2⟩⟩
  have lo := loop _ _ _ (s.toks + ([] : List (Str × Value)).length) ap st
  exact codeAny_compStart_list lo (wpAny_pyIter_enum (up _ _ en) lo)

theorem en_loopT {elt iter ct : PySem.Expr} {a b : Str} {pa pb tp : Pos} {kk : Nat} {scope : Scope} {cl : List (Str × Addr)} {pos : Pos} {e it l C D : Addr} {vs : List Value} {ks : List Int} {news : List (Addr × Obj)} {R : Result → Shared → Prop} {h : Heap} {tk : Nat} (J : Nat → List Value → Prop)
    (hh : A.handled = none) (hab : ¬ a = b) (hi : IntsAre vs ks) (hsz : ks.length ≤ sizeLine) (hxa : scope.names.lookup a = some .local) (hxb : scope.names.lookup b = some .local) (hkind : scope.kind = .function)
    (ap : EnApart h₀ L e it l C D news) (hl : SrcAt h₀ l vs.toArray news) (st : EnSt h₀ L m e it l C D vs.toArray news 0 [] h) (j0 : J 0 [])
    (turn : EnTurnT prog w A h₀ L m env ct elt a b scope cl s ks news J)
    (done : ∀ h tk ys, J ks.length ys → Fr h₀ L h m → (∃ m', h.Ns C m') → News h₀ L h ((D, lst ys) :: news) → R (.ok .next) { s with heap := h, toks := tk }) :
    codeAny (model prog w) A (.compLoop (.ListComp elt [⟨.Tuple [.Name a pa, .Name b pb] kk tp, iter, [ct], 0⟩] scope pos) 0 (.ref e) (.ref D) (compEnvC scope cl C env)) R { s with heap := h, toks := tk } := by
  refine kct_loop (fun k s' => ∃ h' tk' i ys, s' = { s with heap := h', toks := tk' } ∧ i ≤ ks.length ∧ k = ks.length + 1 - i ∧ ys.length ≤ i ∧ EnSt h₀ L m e it l C D vs.toArray news i ys h' ∧ J i ys) ?_ (ks.length + 1) ⟨h, tk, 0, [], rfl, Nat.zero_le _, rfl, Nat.le_refl _, st, j0⟩
  rintro k s' ⟨h', tk', i, ys, rfl, hle, rfl, hyl, st', hJ⟩
  refine en_next (R := fun s' => R (.ok .next) s') hh hab hi hxa hxb hkind ap hl st' (fun c t u h₄ tk₄ oe ot oC m₂ hc hoC ha hb F₄ N₄ back => ?_) (fun h₂ tk₂ hin F₂ ns₂ N₂ => ?_) hle
  · have hlt : i < ks.length := (List.getElem?_eq_some_iff.mp hc).1
    refine wpAny_mono (turn i c t u ys e it C D oe ot oC m₂ h₄ tk₄ _ hc hJ hoC ha hb F₄ N₄) (fun ok s₃ h₃ => ?_) fun _ _ x => x
    cases ok with
    | true =>
      simp only [if_true] at h₃ ⊢
      refine wpAny_mono h₃ (fun y s₅ h₅ => ?_) fun _ _ x => x
      obtain ⟨h₅, tk₅, rfl, F₅, N₅, hr⟩ := h₅
      refine en_append (s := s) ap (Nat.le_trans hyl (Nat.le_trans hle hsz)) (back ys h₅ F₅ N₅) fun h₆ st₆ => ?_
      exact ⟨ks.length + 1 - (i + 1), by omega, h₆, tk₅, i + 1, ys ++ [y], rfl, hlt, rfl, by rw [List.length_append, List.length_singleton]; exact Nat.succ_le_succ hyl, st₆, hr⟩
    | false =>
      simp only [Bool.false_eq_true, if_false] at h₃ ⊢
      obtain ⟨h₅, tk₅, rfl, F₅, N₅, hr⟩ := h₃
      exact ⟨ks.length + 1 - (i + 1), by omega, h₅, tk₅, i + 1, ys, rfl, hlt, rfl, Nat.le_succ_of_le hyl, back ys h₅ F₅ N₅, hr⟩
  · subst hin
    exact done h₂ tk₂ ys hJ F₂ ns₂ N₂

theorem en_loop {elt iter : PySem.Expr} {a b : Str} {pa pb tp : Pos} {kk : Nat} {scope : Scope} {cl : List (Str × Addr)} {pos : Pos} {e it l C D : Addr} {vs : List Value} {ks : List Int} {news : List (Addr × Obj)} {R : Result → Shared → Prop} {h : Heap} {tk : Nat} (J : Nat → List Value → Prop)
    (hh : A.handled = none) (hab : ¬ a = b) (hi : IntsAre vs ks) (hsz : ks.length ≤ sizeLine) (hxa : scope.names.lookup a = some .local) (hxb : scope.names.lookup b = some .local) (hkind : scope.kind = .function)
    (ap : EnApart h₀ L e it l C D news) (hl : SrcAt h₀ l vs.toArray news) (st : EnSt h₀ L m e it l C D vs.toArray news 0 [] h) (j0 : J 0 [])
    (turn : EnTurn prog w A h₀ L m env elt a b scope cl s ks news J)
    (done : ∀ h tk ys, J ks.length ys → Fr h₀ L h m → (∃ m', h.Ns C m') → News h₀ L h ((D, lst ys) :: news) → R (.ok .next) { s with heap := h, toks := tk }) :
    codeAny (model prog w) A (.compLoop (.ListComp elt [⟨.Tuple [.Name a pa, .Name b pb] kk tp, iter, [], 0⟩] scope pos) 0 (.ref e) (.ref D) (compEnvC scope cl C env)) R { s with heap := h, toks := tk } := by
  refine kcp_loop (fun k s' => ∃ h' tk' i ys, s' = { s with heap := h', toks := tk' } ∧ i ≤ ks.length ∧ k = ks.length + 1 - i ∧ ys.length ≤ i ∧ EnSt h₀ L m e it l C D vs.toArray news i ys h' ∧ J i ys) ?_ (ks.length + 1) ⟨h, tk, 0, [], rfl, Nat.zero_le _, rfl, Nat.le_refl _, st, j0⟩
  rintro k s' ⟨h', tk', i, ys, rfl, hle, rfl, hyl, st', hJ⟩
  refine en_next (R := fun s' => R (.ok .next) s') hh hab hi hxa hxb hkind ap hl st' (fun c t u h₄ tk₄ oe ot oC m₂ hc hoC ha hb F₄ N₄ back => ?_) (fun h₂ tk₂ hin F₂ ns₂ N₂ => ?_) hle
  · have hlt : i < ks.length := (List.getElem?_eq_some_iff.mp hc).1
    refine wpAny_mono (turn i c t u ys e it C D oe ot oC m₂ h₄ tk₄ _ hc hJ hoC ha hb F₄ N₄) (fun y s₅ h₅ => ?_) fun _ _ x => x
    obtain ⟨h₅, tk₅, rfl, F₅, N₅, hr⟩ := h₅
    refine en_append (s := s) ap (Nat.le_trans hyl (Nat.le_trans hle hsz)) (back ys h₅ F₅ N₅) fun h₆ st₆ => ?_
    exact ⟨ks.length + 1 - (i + 1), by omega, h₆, tk₅, i + 1, ys ++ [y], rfl, hlt, rfl, by rw [List.length_append, List.length_singleton]; exact Nat.succ_le_succ hyl, st₆, hr⟩
  · subst hin
    exact done h₂ tk₂ ys hJ F₂ ns₂ N₂

/-- what the iterable hands on: an enumerate over a list of ints, the turns, the end -/
def EnSrcT (prog : Program) (w : World) (A : Around) (h₀ : Heap) (L : Addr) (m : Str → Option Value) (env : Env) (ct elt : PySem.Expr) (a b : Str) (scope : Scope) (cl : List (Str × Addr)) (Fin : Shared → List Value → List (Addr × Obj) → Prop) (xv : Value) (s₁ : Shared) : Prop :=
  ∃ e it l vs ks news J, xv = .ref e ∧ A.handled = none ∧ Fr h₀ L s₁.heap m ∧ News h₀ L s₁.heap news ∧ SrcAt h₀ l vs.toArray news ∧ IntsAre vs ks ∧ ks.length ≤ sizeLine ∧
    IsEnum s₁.heap e it 0 .none ∧ s₁.heap.IsListIter it l 0 ∧ e ≠ it ∧ l ≠ e ∧ l ≠ it ∧ L ≠ e ∧ L ≠ it ∧ h₀.get? e = none ∧ h₀.get? it = none ∧ (∀ p ∈ news, p.1 ≠ e ∧ p.1 ≠ it) ∧ J 0 [] ∧
    EnTurnT prog w A h₀ L m env ct elt a b scope cl s₁ ks news J ∧ (∀ ys, J ks.length ys → Fin s₁ ys news)
def EnSrc (prog : Program) (w : World) (A : Around) (h₀ : Heap) (L : Addr) (m : Str → Option Value) (env : Env) (elt : PySem.Expr) (a b : Str) (scope : Scope) (cl : List (Str × Addr)) (Fin : Shared → List Value → List (Addr × Obj) → Prop) (xv : Value) (s₁ : Shared) : Prop :=
  ∃ e it l vs ks news J, xv = .ref e ∧ A.handled = none ∧ Fr h₀ L s₁.heap m ∧ News h₀ L s₁.heap news ∧ SrcAt h₀ l vs.toArray news ∧ IntsAre vs ks ∧ ks.length ≤ sizeLine ∧
    IsEnum s₁.heap e it 0 .none ∧ s₁.heap.IsListIter it l 0 ∧ e ≠ it ∧ l ≠ e ∧ l ≠ it ∧ L ≠ e ∧ L ≠ it ∧ h₀.get? e = none ∧ h₀.get? it = none ∧ (∀ p ∈ news, p.1 ≠ e ∧ p.1 ≠ it) ∧ J 0 [] ∧
    EnTurn prog w A h₀ L m env elt a b scope cl s₁ ks news J ∧ (∀ ys, J ks.length ys → Fin s₁ ys news)

theorem en_ListComp {elt iter : PySem.Expr} {a b : Str} {pa pb tp : Pos} {kk : Nat} {scope : Scope} {cl : List (Str × Addr)} {pos : Pos} {Q : Value → Shared → Prop} (_F₀ : Fr h₀ L s.heap m)
    (hclos : closureFor scope env = pure cl) (hcell : ∀ y ∈ scope.names, y.2 ≠ .cell) (hkind : scope.kind = .function)
    (hnames : ∀ y ∈ scope.names, y.2 = .local → scope.names.lookup y.1 = some .local) (hxa : scope.names.lookup a = some .local) (hxb : scope.names.lookup b = some .local) (hab : ¬ a = b)
    (h : wpAny (model prog w) A (eval iter env) (EnSrc prog w A h₀ L m env elt a b scope cl (fun s₂ => FinE h₀ L m s₂ Q)) E s)
    (hs : ∀ x, foldedSetIterable iter env x = pure x := by intro _; rfl) :
    wpAny (model prog w) A (eval (.ListComp elt [⟨.Tuple [.Name a pa, .Name b pb] kk tp, iter, [], 0⟩] scope pos) env) Q E s := by
  rw [eval_ListComp]
  refine wpAny_comprehension_free (use := none) rfl hs hclos hkind hnames (wpAny_mono h (fun xv s₁ h₁ => ?_) fun _ _ e => e)
  obtain ⟨e, it, l, vs, ks, news, J, rfl, hh, F, N, S, hi, hsz, en, li, ei, le, lt, Le, Lt, e0, t0, off, j0, turn, fin⟩ := h₁
  refine wpAny_pyIter_enum en ?_
  refine en_start hcell hkind ei le lt Le Lt e0 t0 off en li (S.list F.keep N) F N fun C D h tk ap st => ?_
  refine en_loop J hh hab hi hsz hxa hxb hkind ap S st j0 turn fun h' tk' ys hJ F' ns' N' => ?_
  obtain ⟨m', hn⟩ := ns'
  have o1 : Off1 D news := off1_of fun p hp => (ap.off p hp).2.2.2
  refine ⟨m', hn, fun h'' hs'' => fin ys hJ D h'' tk' (F'.change hs'' ap.CL ap.C0) (fun p hp => ?_) o1⟩
  refine ⟨hs''.extBut _ _ ?_ (N' p hp).1, (N' p hp).2⟩
  rcases List.mem_cons.mp hp with rfl | hp
  · exact Ne.symm ap.CD
  · exact (ap.off p hp).2.2.1

theorem en_Assign_ListComp {ct elt iter : PySem.Expr} {a b y : Str} {pa pb tp py : Pos} {kk : Nat} {scope : Scope} {cl : List (Str × Addr)} {pos spos : Pos} {Q : Flow → Shared → Prop} (_F₀ : Fr h₀ L s.heap m) (hLe : env.locals = L)
    (hsw : swapsWith (.ListComp elt [⟨.Tuple [.Name a pa, .Name b pb] kk tp, iter, [ct], 0⟩] scope pos) (some (.Name y py)) spos.line env = pure true)
    (hclos : closureFor scope env = pure cl) (hcell : ∀ z ∈ scope.names, z.2 ≠ .cell) (hkind : scope.kind = .function)
    (hnames : ∀ z ∈ scope.names, z.2 = .local → scope.names.lookup z.1 = some .local) (hxa : scope.names.lookup a = some .local) (hxb : scope.names.lookup b = some .local) (hab : ¬ a = b)
    (hy : env.kindOf y = some .local) (hp : (env.scope.kind == .class || (env.scope.kind == .module && env.locals != env.globals)) = false)
    (h : wpAny (model prog w) A (eval iter env) (EnSrcT prog w A h₀ L m env ct elt a b scope cl (fun s₂ => FinA h₀ L m s₂ y Q)) E s)
    (hs : ∀ x, foldedSetIterable iter env x = pure x := by intro _; rfl) :
    wpAny (model prog w) A (exec (.Assign [.Name y py] (.ListComp elt [⟨.Tuple [.Name a pa, .Name b pb] kk tp, iter, [ct], 0⟩] scope pos) spos) env) Q E s := by
  subst hLe
  rw [exec_Assign_Name_used _ _ _ _ hsw]
  refine wpAny_bind (wpAny_standAt (wpAny_bind ?_))
  show wpAny _ A (do let _ ← comprehension (.ListComp elt [⟨.Tuple [.Name a pa, .Name b pb] kk tp, iter, [ct], 0⟩] scope pos) scope env _ (newList []) false (eval iter env) (some (assign (.Name y py) env))) _ _ s
  refine wpAny_bind (wpAny_mono (wpAny_comprehension_free (use := some (assign (.Name y py) env)) (Q := fun _ s' => Q .next s') rfl hs hclos hkind hnames
    (wpAny_mono h (fun xv s₁ h₁ => ?_) fun _ _ e => e)) (fun _ s' hq => wpAny_pure (wpAny_pure hq)) fun _ _ e => e)
  obtain ⟨e, it, l, vs, ks, news, J, rfl, hh, F, N, S, hi, hsz, en, li, ei, le, lt, Le, Lt, e0, t0, off, j0, turn, fin⟩ := h₁
  refine wpAny_pyIter_enum en ?_
  refine en_start hcell hkind ei le lt Le Lt e0 t0 off en li (S.list F.keep N) F N fun C D h tk ap st => ?_
  refine en_loopT J hh hab hi hsz hxa hxb hkind ap S st j0 turn fun h' tk' ys hJ F' ns' N' => ?_
  obtain ⟨m', hn⟩ := ns'
  have o1 : Off1 D news := off1_of fun p hp => (ap.off p hp).2.2.2
  show wpAny _ A (assign (.Name y py) env (.ref D)) _ _ _
  refine wpAny_assign_Name (wpAny_storeName_local hy F'.ns (fun h₂ hn₂ hs₂ => ?_) hp)
  have hL₀ : h₀.get? env.locals = none := Heap.get?_none_of_le F'.above
  have F₂ : Fr h₀ env.locals h₂ (fun z => if z = y then some (.ref D) else m z) := ⟨hn₂, fun b o e => hs₂.extBut b o (fun q => by rw [q, hL₀] at e; cases e) (F'.keep b o e), F'.above⟩
  refine ⟨m', hn.sameBut hs₂ ap.CL, fun h'' hs'' => fin ys hJ D h'' _ (F₂.change hs'' ap.CL ap.C0) (fun p hp => ?_) o1⟩
  have z : h₂.get? p.1 = some p.2 := hs₂.extBut _ _ (N' p hp).2.1 (N' p hp).1
  refine ⟨hs''.extBut _ _ ?_ z, (N' p hp).2⟩
  rcases List.mem_cons.mp hp with rfl | hp
  · exact Ne.symm ap.CD
  · exact (ap.off p hp).2.2.1

/-- enumerate over a list of ints, where the comprehension begins -/
theorem en_srcT {ct elt : PySem.Expr} {a b : Str} {scope : Scope} {cl : List (Str × Addr)} {Fin : Shared → List Value → List (Addr × Obj) → Prop} {l : Addr} {vs : List Value} {ks : List Int} {news : List (Addr × Obj)} (J : Nat → List Value → Prop)
    (hh : A.handled = none) (F : Fr h₀ L s.heap m) (N : News h₀ L s.heap news) (S : SrcAt h₀ l vs.toArray news) (hi : IntsAre vs ks) (hsz : ks.length ≤ 100000) (j0 : J 0 [])
    (turn : ∀ g, EnTurnT prog w A h₀ L m env ct elt a b scope cl { s with heap := g } ks news J) (fin : ∀ g ys, J ks.length ys → Fin { s with heap := g } ys news) :
    wpAny (model prog w) A (call (.type "enumerate") [.ref l]) (EnSrcT prog w A h₀ L m env ct elt a b scope cl Fin) E s := by
  have hl := S.list F.keep N
  have hlt : l < s.heap.objs.size := by obtain ⟨_, q, _⟩ := hl; exact Heap.lt_size q
  have hLlt : L < s.heap.objs.size := F.ns.lt
  have none0 : ∀ x, s.heap.objs.size ≤ x → h₀.get? x = none := fun x hx => by
    cases q : h₀.get? x with
    | none => rfl
    | some o => exact absurd (Heap.lt_size (F.keep x o q)) (Nat.not_lt.mpr hx)
  refine call_enumerate_list hl fun h' en li _ hk => ⟨_, _, l, vs, ks, news, J, rfl, hh, F.keeps hk, fun p hp => ⟨hk _ _ (N p hp).1, (N p hp).2⟩, S, hi, by rw [sizeLine_eq]; omega, en, li, Nat.succ_ne_self _, Nat.ne_of_lt (Nat.lt_succ_of_lt hlt), Nat.ne_of_lt hlt, Nat.ne_of_lt (Nat.lt_succ_of_lt hLlt), Nat.ne_of_lt hLlt,
    none0 _ (Nat.le_succ _), none0 _ (Nat.le_refl _), fun p hp => ⟨Nat.ne_of_lt (Nat.lt_succ_of_lt (Heap.lt_size (N p hp).1)), Nat.ne_of_lt (Heap.lt_size (N p hp).1)⟩, j0, turn h', fin h'⟩
theorem en_src {elt : PySem.Expr} {a b : Str} {scope : Scope} {cl : List (Str × Addr)} {Fin : Shared → List Value → List (Addr × Obj) → Prop} {l : Addr} {vs : List Value} {ks : List Int} {news : List (Addr × Obj)} (J : Nat → List Value → Prop)
    (hh : A.handled = none) (F : Fr h₀ L s.heap m) (N : News h₀ L s.heap news) (S : SrcAt h₀ l vs.toArray news) (hi : IntsAre vs ks) (hsz : ks.length ≤ 100000) (j0 : J 0 [])
    (turn : ∀ g, EnTurn prog w A h₀ L m env elt a b scope cl { s with heap := g } ks news J) (fin : ∀ g ys, J ks.length ys → Fin { s with heap := g } ys news) :
    wpAny (model prog w) A (call (.type "enumerate") [.ref l]) (EnSrc prog w A h₀ L m env elt a b scope cl Fin) E s := by
  have hl := S.list F.keep N
  have hlt : l < s.heap.objs.size := by obtain ⟨_, q, _⟩ := hl; exact Heap.lt_size q
  have hLlt : L < s.heap.objs.size := F.ns.lt
  have none0 : ∀ x, s.heap.objs.size ≤ x → h₀.get? x = none := fun x hx => by
    cases q : h₀.get? x with
    | none => rfl
    | some o => exact absurd (Heap.lt_size (F.keep x o q)) (Nat.not_lt.mpr hx)
  refine call_enumerate_list hl fun h' en li _ hk => ⟨_, _, l, vs, ks, news, J, rfl, hh, F.keeps hk, fun p hp => ⟨hk _ _ (N p hp).1, (N p hp).2⟩, S, hi, by rw [sizeLine_eq]; omega, en, li, Nat.succ_ne_self _, Nat.ne_of_lt (Nat.lt_succ_of_lt hlt), Nat.ne_of_lt hlt, Nat.ne_of_lt (Nat.lt_succ_of_lt hLlt), Nat.ne_of_lt hLlt,
    none0 _ (Nat.le_succ _), none0 _ (Nat.le_refl _), fun p hp => ⟨Nat.ne_of_lt (Nat.lt_succ_of_lt (Heap.lt_size (N p hp).1)), Nat.ne_of_lt (Heap.lt_size (N p hp).1)⟩, j0, turn h', fin h'⟩
end
end TEnum1
end Mine

namespace Mine
section TDue0
open PyProof.Rows.LCg PyProof.Rows.LCt

/-- a comprehension with a test over a list of ints, by an invariant; nothing is made in a turn -/
theorem compRestT_inv {prog : Program} {w : World} {A : Around} {h₀ : Heap} {L : Addr} {m : Str → Option Value} {env : Env} {ct elt : Expr} {x : Str} {scope : Scope} {cl : List (Str × Addr)} {s : Shared} {S : List (Addr × Obj) → Prop}
    {Fin : List Value → List (Addr × Obj) → Prop} {news : List (Addr × Obj)} {vs : List Value} {ks : List Int} (J : Nat → List Value → Prop) (hi : IntsAre vs ks) (h0 : J 0 []) (hS : S news)
    (step : ∀ (i : Nat) (c : Int) (t : Tok) (ys : List Value) I oI C oC D m₂ h tk (E' : Value → Shared → Prop), ks[i]? = some c → J i ys → NsObj oC m₂ → m₂ x = some (.int c t) → Fr h₀ L h m → News h₀ L h ((I, oI) :: (C, oC) :: (D, lst ys) :: news) →
      wpAny (model prog w) A (isTrue ct (compEnvC scope cl C env) (eval ct (compEnvC scope cl C env))) (fun ok s' => if ok = true then
        wpAny (model prog w) A (eval elt (compEnvC scope cl C env)) (EnEnd h₀ L m { s with heap := h, toks := tk } ((I, oI) :: (C, oC) :: (D, lst ys) :: news) (fun y => J (i + 1) (ys ++ [y]))) E' s'
        else EnEnd h₀ L m { s with heap := h, toks := tk } ((I, oI) :: (C, oC) :: (D, lst ys) :: news) (fun _ => J (i + 1) ys) .none s') E' { s with heap := h, toks := tk })
    (fin : ∀ ys, J ks.length ys → Fin ys news) : CompRestT prog w A h₀ L m env ct elt x scope cl s S (fun i v => vs.toArray[i]? = some v) Fin vs.toArray.size 0 [] news := by
  have hsz : vs.toArray.size = ks.length := by rw [List.size_toArray, hi.length]
  rw [hsz]
  have all : ∀ k i ys, i + k = ks.length → J i ys → CompRestT prog w A h₀ L m env ct elt x scope cl s S (fun i v => vs.toArray[i]? = some v) Fin k i ys news := by
    intro k
    induction k with
    | zero => intro i ys e hj; exact CompRestT.zero (fin _ (by rw [← e]; exact hj))
    | succ k ih =>
      intro i ys e hj
      refine CompRestT.succ ?_
      intro v I oI C oC D m₂ h tk E' hP hN hx F N O ne
      have hlt : i < ks.length := by omega
      obtain ⟨t, ht⟩ := hi.get i ks[i] (by simp [hlt])
      have hv : v = .int ks[i] t := by
        have hP' : vs[i]? = some v := by simpa using hP
        rw [ht] at hP'
        exact (Option.some.inj hP').symm
      subst hv
      have fin' : ∀ (ys' : List Value) (s₂ : Shared) (y : Value) (rest : Value → List (Addr × Obj) → Prop), EnEnd h₀ L m { s with heap := h, toks := tk } ((I, oI) :: (C, oC) :: (D, lst ys) :: news) (fun y => J (i + 1) ys') y s₂ → (J (i + 1) ys' → rest y news) → CompEnd h₀ L m { s with heap := h, toks := tk } I oI C oC D (lst ys) S rest y s₂ := by
        rintro ys' s₂ y rest ⟨h', tk', rfl, F', N', hj'⟩ hr
        exact ⟨h', tk', news, rfl, F', N', O, hS, hr hj'⟩
      refine wpAny_mono (step i ks[i] t ys I oI C oC D m₂ h tk E' (by simp [hlt]) hj hN hx F N) (fun ok s₂ hc => ?_) (fun _ _ e => e)
      cases ok with
      | true =>
        simp only [if_true] at hc ⊢
        refine wpAny_mono hc (fun y s₃ hy => ?_) (fun _ _ e => e)
        obtain ⟨h', tk', rfl, F', N', hj'⟩ := hy
        exact ⟨h', tk', news, rfl, F', N', O, hS, ih (i + 1) _ (by omega) hj'⟩
      | false =>
        simp only [Bool.false_eq_true, if_false] at hc ⊢
        exact fin' ys _ _ _ hc fun hj' => ih (i + 1) _ (by omega) hj'
  exact all ks.length 0 [] (by omega) h0

theorem comp_ints {prog : Program} {w : World} {A : Around} {h₀ : Heap} {L : Addr} {m : Str → Option Value} {env : Env} {ct elt : Expr} {x : Str} {scope : Scope} {cl : List (Str × Addr)} {s₁ : Shared}
    {Fin : Shared → List Value → List (Addr × Obj) → Prop} {news : List (Addr × Obj)} {vs : List Value} {ks : List Int} {l : Addr} {k : Nat} (J : Nat → List Value → Prop)
    (hh : A.handled = none) (F : Fr h₀ L s₁.heap m) (N : News h₀ L s₁.heap news) (hm : (l, W.listOf vs.toArray k) ∈ news) (hi : IntsAre vs ks) (hz : ks.length ≤ 100000) (h0 : J 0 [])
    (step : ∀ (g : Heap) (i : Nat) (c : Int) (t : Tok) (ys : List Value) I oI C oC D m₂ h tk (E' : Value → Shared → Prop), ks[i]? = some c → J i ys → NsObj oC m₂ → m₂ x = some (.int c t) → Fr h₀ L h m → News h₀ L h ((I, oI) :: (C, oC) :: (D, lst ys) :: news) →
      wpAny (model prog w) A (isTrue ct (compEnvC scope cl C env) (eval ct (compEnvC scope cl C env))) (fun ok s' => if ok = true then
        wpAny (model prog w) A (eval elt (compEnvC scope cl C env)) (EnEnd h₀ L m { s₁ with heap := h, toks := tk } ((I, oI) :: (C, oC) :: (D, lst ys) :: news) (fun y => J (i + 1) (ys ++ [y]))) E' s'
        else EnEnd h₀ L m { s₁ with heap := h, toks := tk } ((I, oI) :: (C, oC) :: (D, lst ys) :: news) (fun _ => J (i + 1) ys) .none s') E' { s₁ with heap := h, toks := tk })
    (fin : ∀ g ys, J ks.length ys → Fin { s₁ with heap := g } ys news) : CompSrcT prog w A h₀ L m env ct elt x scope cl Fin (.ref l) s₁ :=
  CompSrcT.ledger hh F N hm (by rw [List.size_toArray, hi.length, sizeLine_eq]; omega) fun g => compRestT_inv J hi h0 (.inr ⟨_, hm, rfl, _, rfl⟩) (step g) (fin g)

/-- the places of a code -/
def ptsFrom : Nat → List Int → List Int
  | _, [] => []
  | n, c :: r => if c = 46 then (n : Int) :: ptsFrom (n + 1) r else ptsFrom (n + 1) r
theorem ptsFrom_snoc (c : Int) : ∀ (l : List Int) (n : Nat), ptsFrom n (l ++ [c]) = if c = 46 then ptsFrom n l ++ [((n + l.length : Nat) : Int)] else ptsFrom n l
  | [], n => by simp [ptsFrom]
  | d :: r, n => by
    have ih := ptsFrom_snoc c r (n + 1)
    have e : n + 1 + r.length = n + (d :: r).length := by simp; omega
    rw [e] at ih
    show ptsFrom n (d :: (r ++ [c])) = _
    simp only [ptsFrom, ih]
    by_cases h : c = 46 <;> by_cases h' : d = 46 <;> simp [h, h']
theorem take_next {ks : List Int} {i : Nat} {c : Int} (h : ks[i]? = some c) : ks.take (i + 1) = ks.take i ++ [c] := by
  rw [List.take_add_one, h]; rfl
theorem take_len {ks : List Int} {i : Nat} {c : Int} (h : ks[i]? = some c) : (ks.take i).length = i := by
  have := (List.getElem?_eq_some_iff.mp h).1
  rw [List.length_take]; omega

def JP (ks : List Int) (i : Nat) (ys : List Value) : Prop := IntsAre ys (ptsFrom 0 (ks.take i))
theorem JP.start (ks : List Int) : JP ks 0 [] := by unfold JP; rw [List.take_zero]; exact IntsAre.nil
theorem JP.yes {ks : List Int} {i : Nat} {ys : List Value} {c : Int} {t : Tok} (h : JP ks i ys) (hc : ks[i]? = some c) (h1 : c = 46) : JP ks (i + 1) (ys ++ [.int (i : Int) t]) := by
  unfold JP at *
  rw [take_next hc, ptsFrom_snoc, if_pos h1, take_len hc, Nat.zero_add]
  exact h.append (.cons _ _ .nil)
theorem JP.no {ks : List Int} {i : Nat} {ys : List Value} {c : Int} (h : JP ks i ys) (hc : ks[i]? = some c) (h1 : ¬ c = 46) : JP ks (i + 1) ys := by
  unfold JP at *
  rw [take_next hc, ptsFrom_snoc, if_neg h1]
  exact h
theorem JP.done {ks : List Int} {ys : List Value} (h : JP ks ks.length ys) : IntsAre ys (ptsFrom 0 ks) := by unfold JP at h; rw [List.take_length] at h; exact h

def numsOf (ks : List Int) : List Int := (ks.filter (fun c => decide (c ≠ 46))).map (· - 48)
def JN (ks : List Int) (i : Nat) (ys : List Value) : Prop := IntsAre ys (numsOf (ks.take i))
theorem JN.start (ks : List Int) : JN ks 0 [] := by unfold JN; rw [List.take_zero]; exact IntsAre.nil
theorem JN.yes {ks : List Int} {i : Nat} {ys : List Value} {c : Int} {t : Tok} (h : JN ks i ys) (hc : ks[i]? = some c) (h1 : c ≠ 46) : JN ks (i + 1) (ys ++ [.int (c - 48) t]) := by
  unfold JN at *
  rw [take_next hc]
  have e : numsOf (ks.take i ++ [c]) = numsOf (ks.take i) ++ [c - 48] := by simp [numsOf, h1]
  rw [e]
  exact h.append (.cons _ _ .nil)
theorem JN.no {ks : List Int} {i : Nat} {ys : List Value} {c : Int} (h : JN ks i ys) (hc : ks[i]? = some c) (h1 : ¬ c ≠ 46) : JN ks (i + 1) ys := by
  unfold JN at *
  rw [take_next hc]
  have e : numsOf (ks.take i ++ [c]) = numsOf (ks.take i) := by simp at h1; simp [numsOf, h1]
  rw [e]
  exact h
theorem JN.done {ks : List Int} {ys : List Value} (h : JN ks ks.length ys) : IntsAre ys (numsOf ks) := by unfold JN at h; rw [List.take_length] at h; exact h

def badOf (ks : List Int) : List Int := ks.filter (fun n => decide (n < 0 ∨ 9 < n))
def JB (ks : List Int) (i : Nat) (ys : List Value) : Prop := IntsAre ys (badOf (ks.take i))
theorem JB.start (ks : List Int) : JB ks 0 [] := by unfold JB; rw [List.take_zero]; exact IntsAre.nil
theorem JB.yes {ks : List Int} {i : Nat} {ys : List Value} {c : Int} {t : Tok} (h : JB ks i ys) (hc : ks[i]? = some c) (h1 : c < 0 ∨ 9 < c) : JB ks (i + 1) (ys ++ [.int c t]) := by
  unfold JB at *
  rw [take_next hc]
  have e : badOf (ks.take i ++ [c]) = badOf (ks.take i) ++ [c] := by
    unfold badOf; rw [List.filter_append, List.filter_cons_of_pos (by simpa using h1)]; rfl
  rw [e]
  exact h.append (.cons _ _ .nil)
theorem JB.no {ks : List Int} {i : Nat} {ys : List Value} {c : Int} (h : JB ks i ys) (hc : ks[i]? = some c) (h1 : ¬ (c < 0 ∨ 9 < c)) : JB ks (i + 1) ys := by
  unfold JB at *
  rw [take_next hc]
  have e : badOf (ks.take i ++ [c]) = badOf (ks.take i) := by
    unfold badOf; rw [List.filter_append, List.filter_cons_of_neg (by simpa using h1)]; simp
  rw [e]
  exact h
theorem JB.done {ks : List Int} {ys : List Value} (h : JB ks ks.length ys) : IntsAre ys (badOf ks) := by unfold JB at h; rw [List.take_length] at h; exact h

/-- the numerals by their weights -/
def wtsFrom : Nat → List Int → List Int
  | _, [] => []
  | n, c :: r => c * 10 ^ n :: wtsFrom (n + 1) r
theorem wtsFrom_snoc (c : Int) : ∀ (l : List Int) (n : Nat), wtsFrom n (l ++ [c]) = wtsFrom n l ++ [c * 10 ^ (n + l.length)]
  | [], n => by simp [wtsFrom]
  | d :: r, n => by
    have ih := wtsFrom_snoc c r (n + 1)
    have e : n + 1 + r.length = n + (d :: r).length := by simp; omega
    rw [e] at ih
    show wtsFrom n (d :: (r ++ [c])) = _
    simp only [wtsFrom, ih, List.cons_append]
def JW (ks : List Int) (i : Nat) (ys : List Value) : Prop := IntsAre ys (wtsFrom 0 (ks.take i))
theorem JW.start (ks : List Int) : JW ks 0 [] := by unfold JW; rw [List.take_zero]; exact IntsAre.nil
theorem JW.next {ks : List Int} {i : Nat} {ys : List Value} {c k : Int} {t : Tok} (h : JW ks i ys) (hc : ks[i]? = some c) (hk : k = 10 ^ i) : JW ks (i + 1) (ys ++ [.int (c * k) t]) := by
  unfold JW at *
  rw [take_next hc, wtsFrom_snoc, take_len hc, Nat.zero_add, hk]
  exact h.append (.cons _ _ .nil)
theorem JW.done {ks : List Int} {ys : List Value} (h : JW ks ks.length ys) : IntsAre ys (wtsFrom 0 ks) := by unfold JW at h; rw [List.take_length] at h; exact h

theorem comp_JN {prog : Program} {w : World} {A : Around} {h₀ : Heap} {L : Addr} {m : Str → Option Value} {env : Env} {ct elt : Expr} {x : Str} {scope : Scope} {cl : List (Str × Addr)} {s₁ : Shared}
    {Fin : Shared → List Value → List (Addr × Obj) → Prop} {news : List (Addr × Obj)} {vs : List Value} {ks : List Int} {l : Addr} {k : Nat}
    (hh : A.handled = none) (F : Fr h₀ L s₁.heap m) (N : News h₀ L s₁.heap news) (hm : (l, W.listOf vs.toArray k) ∈ news) (hi : IntsAre vs ks) (hz : ks.length ≤ 100000)
    (step : ∀ (_g : Heap) (i : Nat) (c : Int) (t : Tok) (ys : List Value) I oI C oC D m₂ h tk (E' : Value → Shared → Prop), ks[i]? = some c → JN ks i ys → NsObj oC m₂ → m₂ x = some (.int c t) → Fr h₀ L h m → News h₀ L h ((I, oI) :: (C, oC) :: (D, lst ys) :: news) →
      wpAny (model prog w) A (isTrue ct (compEnvC scope cl C env) (eval ct (compEnvC scope cl C env))) (fun ok s' => if ok = true then
        wpAny (model prog w) A (eval elt (compEnvC scope cl C env)) (EnEnd h₀ L m { s₁ with heap := h, toks := tk } ((I, oI) :: (C, oC) :: (D, lst ys) :: news) (fun y => JN ks (i + 1) (ys ++ [y]))) E' s'
        else EnEnd h₀ L m { s₁ with heap := h, toks := tk } ((I, oI) :: (C, oC) :: (D, lst ys) :: news) (fun _ => JN ks (i + 1) ys) .none s') E' { s₁ with heap := h, toks := tk })
    (fin : ∀ g ys, JN ks ks.length ys → Fin { s₁ with heap := g } ys news) : CompSrcT prog w A h₀ L m env ct elt x scope cl Fin (.ref l) s₁ :=
  comp_ints (JN ks) hh F N hm hi hz (JN.start ks) step fin

theorem comp_JB {prog : Program} {w : World} {A : Around} {h₀ : Heap} {L : Addr} {m : Str → Option Value} {env : Env} {ct elt : Expr} {x : Str} {scope : Scope} {cl : List (Str × Addr)} {s₁ : Shared}
    {Fin : Shared → List Value → List (Addr × Obj) → Prop} {news : List (Addr × Obj)} {vs : List Value} {ks : List Int} {l : Addr} {k : Nat}
    (hh : A.handled = none) (F : Fr h₀ L s₁.heap m) (N : News h₀ L s₁.heap news) (hm : (l, W.listOf vs.toArray k) ∈ news) (hi : IntsAre vs ks) (hz : ks.length ≤ 100000)
    (step : ∀ (_g : Heap) (i : Nat) (c : Int) (t : Tok) (ys : List Value) I oI C oC D m₂ h tk (E' : Value → Shared → Prop), ks[i]? = some c → JB ks i ys → NsObj oC m₂ → m₂ x = some (.int c t) → Fr h₀ L h m → News h₀ L h ((I, oI) :: (C, oC) :: (D, lst ys) :: news) →
      wpAny (model prog w) A (isTrue ct (compEnvC scope cl C env) (eval ct (compEnvC scope cl C env))) (fun ok s' => if ok = true then
        wpAny (model prog w) A (eval elt (compEnvC scope cl C env)) (EnEnd h₀ L m { s₁ with heap := h, toks := tk } ((I, oI) :: (C, oC) :: (D, lst ys) :: news) (fun y => JB ks (i + 1) (ys ++ [y]))) E' s'
        else EnEnd h₀ L m { s₁ with heap := h, toks := tk } ((I, oI) :: (C, oC) :: (D, lst ys) :: news) (fun _ => JB ks (i + 1) ys) .none s') E' { s₁ with heap := h, toks := tk })
    (fin : ∀ g ys, JB ks ks.length ys → Fin { s₁ with heap := g } ys news) : CompSrcT prog w A h₀ L m env ct elt x scope cl Fin (.ref l) s₁ :=
  comp_ints (JB ks) hh F N hm hi hz (JB.start ks) step fin

theorem en_JP {prog : Program} {w : World} {A : Around} {E : Value → Shared → Prop} {s : Shared} {h₀ : Heap} {L : Addr} {m : Str → Option Value} {env : Env} {ct elt : PySem.Expr} {a b : Str} {scope : Scope} {cl : List (Str × Addr)} {Fin : Shared → List Value → List (Addr × Obj) → Prop} {l : Addr} {vs : List Value} {ks : List Int} {c : Nat} {news : List (Addr × Obj)}
    (hh : A.handled = none) (F : Fr h₀ L s.heap m) (N : News h₀ L s.heap news) (S : (l, W.listOf vs.toArray c) ∈ news) (hi : IntsAre vs ks) (hz : ks.length ≤ 100000)
    (turn : ∀ g, EnTurnT prog w A h₀ L m env ct elt a b scope cl { s with heap := g } ks news (JP ks)) (fin : ∀ g ys, JP ks ks.length ys → Fin { s with heap := g } ys news) :
    wpAny (model prog w) A (call (.type "enumerate") [.ref l]) (EnSrcT prog w A h₀ L m env ct elt a b scope cl Fin) E s :=
  en_srcT (JP ks) hh F N (.inr ⟨_, S, rfl, _, rfl⟩) hi hz (JP.start ks) turn fin

theorem en_JW {prog : Program} {w : World} {A : Around} {E : Value → Shared → Prop} {s : Shared} {h₀ : Heap} {L : Addr} {m : Str → Option Value} {env : Env} {elt : PySem.Expr} {a b : Str} {scope : Scope} {cl : List (Str × Addr)} {Fin : Shared → List Value → List (Addr × Obj) → Prop} {l : Addr} {vs : List Value} {ks : List Int} {c : Nat} {news : List (Addr × Obj)}
    (hh : A.handled = none) (F : Fr h₀ L s.heap m) (N : News h₀ L s.heap news) (S : (l, W.listOf vs.toArray c) ∈ news) (hi : IntsAre vs ks) (hz : ks.length ≤ 100000)
    (turn : ∀ g, EnTurn prog w A h₀ L m env elt a b scope cl { s with heap := g } ks news (JW ks)) (fin : ∀ g ys, JW ks ks.length ys → Fin { s with heap := g } ys news) :
    wpAny (model prog w) A (call (.type "enumerate") [.ref l]) (EnSrc prog w A h₀ L m env elt a b scope cl Fin) E s :=
  en_src (JW ks) hh F N (.inr ⟨_, S, rfl, _, rfl⟩) hi hz (JW.start ks) turn fin
end TDue0
end Mine

namespace Mine
section TDue1W

/-- the law's own reading -/
def dueTail (sg : Int) (cs : List Int) : Rd :=
  if 1 < (ptsFrom 0 cs).length ∨ badOf (numsOf cs) ≠ [] then .none
  else if (numsOf cs).length < 1 ∨ 40 < (numsOf cs).length then .none
  else match ptsFrom 0 cs with
    | [] => .whole (sg * (wtsFrom 0 (numsOf cs).reverse).sum)
    | p :: _ => .real (normI ((cs.length : Int) - 1 - p).toNat (sg * (wtsFrom 0 (numsOf cs).reverse).sum)).1 (normI ((cs.length : Int) - 1 - p).toNat (sg * (wtsFrom 0 (numsOf cs).reverse).sum)).2
def dueD (ks : List Int) : Rd := dueTail (if ks.head? = some 45 then -1 else 1) (rdBody ks)

/-- a tuple of the law -/
abbrev tupO (vs : List Value) (n : Nat) : Obj := { cls := .type "tuple", data := .seq vs.toArray n }
def RetTup (rest : List (Addr × Obj)) (d : Rd) (r : Value) (news' : List (Addr × Obj)) : Prop := match d with
  | .none => ∃ (T : Addr) (t1 : Tok) (n : Nat), r = .ref T ∧ news' = (T, tupO [.str (Str.ofString "none") t1] n) :: rest
  | .whole x => ∃ (T : Addr) (t1 t2 : Tok) (n : Nat), r = .ref T ∧ news' = (T, tupO [.str (Str.ofString "whole") t1, .int x t2] n) :: rest
  | .real x p => ∃ (T : Addr) (t1 t2 t3 : Tok) (n : Nat), r = .ref T ∧ news' = (T, tupO [.str (Str.ofString "real") t1, .int x t2, .int p t3] n) :: rest

local macro_rules | `(tactic| k_all) => `(tactic| assumption)
local macro_rules | `(tactic| lcg_off) => `(tactic| first | omega | ((try simp only [List.length_take, List.length_drop, List.length_reverse, List.length_cons, List.length_nil]); omega))
local macro_rules | `(tactic| walk_at $s:str) => `(tactic| k_extra $s)
theorem cut_stmt {M : Model} {A : Around} {E : Value → Shared → Prop} {s : Shared} {st : Stmt} {rest : List Stmt} {env : Env} {Q : Flow → Shared → Prop} (Mid : Shared → Prop)
    (h1 : wpAny M A (exec st env) (fun f s' => f = .next ∧ Mid s') E s) (h2 : ∀ s', Mid s' → wpAny M A (execs rest env) Q E s') : wpAny M A (execs (st :: rest) env) Q E s := by
  refine wpAny_execs_cons (wpAny_mono h1 (fun f s' h => ?_) fun _ _ e => e)
  obtain ⟨rfl, hm⟩ := h
  exact h2 s' hm

/-- the names behind the first if -/
abbrev mapD (l : Addr) (sg : Int) (t : Tok) : Str → Option Value := fun z => if z = Str.ofString "codes" then some (.ref l) else if z = Str.ofString "sign" then some (.int sg t) else none
def MidD (s : Shared) (g : Heap) (L : Addr) (rest : List (Addr × Obj)) (ks : List Int) (s' : Shared) : Prop :=
  ∃ (l : Addr) (us : List Value) (c : Nat) (t : Tok) (h' : Heap) (tk' : Nat), s' = { s with heap := h', toks := tk' } ∧ Fr g L h' (mapD l (if ks.head? = some 45 then -1 else 1) t) ∧ News g L h' ((l, W.listOf us.toArray c) :: rest) ∧ IntsAre us (rdBody ks)
theorem MidD.intro {s : Shared} {g : Heap} {L : Addr} {rest all : List (Addr × Obj)} {ks : List Int} {l : Addr} {us : List Value} {c : Nat} {t : Tok} {sg : Int} {m : Str → Option Value} {h' : Heap} {tk' : Nat} (F : Fr g L h' m) (N : News g L h' all) (h1 : m (Str.ofString "codes") = some (.ref l)) (h2 : m (Str.ofString "sign") = some (.int sg t))
    (h3 : ∀ z, z ≠ Str.ofString "codes" → z ≠ Str.ofString "sign" → m z = none) (hl : (l, W.listOf us.toArray c) ∈ all) (sub : ∀ p ∈ rest, p ∈ all)
    (e1 : (if ks.head? = some 45 then (-1 : Int) else 1) = sg) (I : IntsAre us (rdBody ks)) : MidD s g L rest ks { s with heap := h', toks := tk' } := by
  subst e1
  have e : m = mapD l (if ks.head? = some 45 then (-1 : Int) else 1) t := by
    funext z
    unfold mapD
    by_cases a : z = Str.ofString "codes"
    · rw [if_pos a, a, h1]
    · rw [if_neg a]
      by_cases b : z = Str.ofString "sign"
      · rw [if_pos b, b, h2]
      · rw [if_neg b, h3 z a b]
  subst e
  exact ⟨l, us, c, t, h', tk', rfl, F, fun p hp => N p ((List.mem_cons.mp hp).elim (fun q => q ▸ hl) (sub p)), I⟩
theorem take1 {ks : List Int} {c : Int} (h : List.take 1 ks = [c]) : ∃ r, ks = c :: r := by
  cases ks with
  | nil => simp at h
  | cons d r => simp at h; exact ⟨r, by rw [h]⟩
theorem take1_pos {ks : List Int} {c : Int} (h : List.take 1 ks = [c]) : 0 < ks.length := by
  obtain ⟨r, rfl⟩ := take1 h; simp
theorem pts_in : ∀ (ks : List Int) (n : Nat), ∀ p ∈ ptsFrom n ks, (n : Int) ≤ p ∧ p < (n : Int) + ks.length
  | [], _, _, h => nomatch h
  | c :: r, n, p, h => by
    have ih := pts_in r (n + 1)
    unfold ptsFrom at h
    split at h
    · rcases List.mem_cons.mp h with rfl | h
      · exact ⟨Int.le_refl _, by simp; omega⟩
      · have := ih p h
        simp at this ⊢; omega
    · have := ih p h
      simp at this ⊢; omega
theorem pts_at {ks : List Int} (h : 0 < (ptsFrom 0 ks).length) : 0 ≤ (ptsFrom 0 ks).getD 0 0 ∧ (ptsFrom 0 ks).getD 0 0 < (ks.length : Int) := by
  have hm : (ptsFrom 0 ks).getD 0 0 ∈ ptsFrom 0 ks := by
    rw [List.getD_eq_getElem?_getD, List.getElem?_eq_getElem h]; exact List.getElem_mem _
  have := pts_in ks 0 _ hm
  simpa using this
theorem item0 {prog : Program} {w : World} {A : Around} {E : Value → Shared → Prop} {s : Shared} {value slice : PySem.Expr} {l : Addr} {vs : List Value} {ns : List Int} {u : Tok} {Q : Value → Shared → Prop} (hl : s.heap.IsList l vs.toArray) (hi : IntsAre vs ns) (h1 : 0 < ns.length) (h : ∀ t, Q (.int (ns.getD 0 0) t) s)
    (hs : subscripted slice false (.ref l) (.int 0 u) = operate [.ref l, .int 0 u] (getItem (.ref l) (.int 0 u)) := by with_unfolding_all rfl) :
    wpAny (model prog w) A (subscriptTail value slice (.ref l) (.int 0 u)) Q E s :=
  item_anyK hl hi (by decide) (by omega) (by decide) (fun t => h t) hs
theorem cut_due {M : Model} {A : Around} {E : Value → Shared → Prop} {s : Shared} {st : Stmt} {tl : List Stmt} {env : Env} {Q : Flow → Shared → Prop} {g : Heap} {L : Addr} {m : Str → Option Value} {rest : List (Addr × Obj)} {ks : List Int} (_F : Fr g L s.heap m)
    (h1 : wpAny M A (exec st env) (fun f s' => f = .next ∧ MidD s g L rest ks s') E s) (h2 : ∀ s', MidD s g L rest ks s' → wpAny M A (execs tl env) Q E s') : wpAny M A (execs (st :: tl) env) Q E s := cut_stmt _ h1 h2
theorem head45 {ks : List Int} (h : List.take 1 ks = [45]) : (if ks.head? = some 45 then (-1 : Int) else 1) = -1 ∧ ks.getD 0 0 = 45 ∧ rdBody ks = ks.drop 1 := by
  obtain ⟨r, rfl⟩ := take1 h
  exact ⟨rfl, rfl, rfl⟩
theorem head43 {ks : List Int} (h : List.take 1 ks = [43]) : (if ks.head? = some 45 then (-1 : Int) else 1) = 1 ∧ ks.getD 0 0 = 43 ∧ rdBody ks = ks.drop 1 := by
  obtain ⟨r, rfl⟩ := take1 h
  exact ⟨rfl, rfl, rfl⟩
theorem headNo {ks : List Int} (h : ¬ List.take 1 ks = [45]) (h' : ¬ List.take 1 ks = [43]) : (if ks.head? = some 45 then (-1 : Int) else 1) = 1 ∧ rdBody ks = ks := by
  cases ks with
  | nil => exact ⟨rfl, rfl⟩
  | cons c r =>
    simp at h h'
    refine ⟨by simp [h], ?_⟩
    exact body0 (by simpa using h') (by simpa using h)
theorem numsOf_len (ks : List Int) : (numsOf ks).length ≤ ks.length := by
  unfold numsOf; rw [List.length_map]; exact List.length_filter_le _ _
theorem rdBody_len (ks : List Int) : (rdBody ks).length ≤ ks.length := by
  unfold rdBody; split <;> simp
theorem ptsFrom_len : ∀ (ks : List Int) (n : Nat), (ptsFrom n ks).length ≤ ks.length
  | [], _ => Nat.le_refl _
  | c :: r, n => by
    have := ptsFrom_len r (n + 1)
    unfold ptsFrom
    split <;> simp <;> omega
theorem badOf_len (ks : List Int) : (badOf ks).length ≤ ks.length := List.length_filter_le _ _
theorem bad_none {ns : List Int} {i : Nat} {c : Int} (h : badOf ns = []) (hc : ns.reverse[i]? = some c) : 0 ≤ c ∧ c ≤ 9 := by
  have hm : c ∈ ns := List.mem_reverse.mp (List.mem_of_getElem? hc)
  unfold badOf at h
  have := (List.filter_eq_nil_iff.mp h) c hm
  simp at this
  omega
theorem at_lt {ns : List Int} {i : Nat} {c : Int} (hc : ns.reverse[i]? = some c) : i < ns.length := by
  have := (List.getElem?_eq_some_iff.mp hc).1
  rwa [List.length_reverse] at this
section
variable {prog : Program} {w : World} {A : Around} {E : Value → Shared → Prop} {s : Shared} {Q : Value → Shared → Prop} {t u : Tok}
theorem pow_cs {n : Int} (h0 : 0 ≤ n) (h1 : n ≤ 1000) (h : ∀ (k : Int) v tk, k = 10 ^ n.toNat → Q (.int k v) { s with toks := tk }) : wpAny (model prog w) A (binaryOp .Pow (.int 10 t) (.int n u)) Q E s :=
  pow_int_small h0 (by omega) (by decide) (h _ _ _ rfl)
theorem mul_cs9 {c k : Int} (h0 : -10 ≤ c) (h1 : c ≤ 9) (h : ∀ v tk, Q (.int (c * k) v) { s with toks := tk }) : wpAny (model prog w) A (binaryOp .Mult (.int c t) (.int k u)) Q E s := by
  refine mul_int (h _ _) (IntMulOk.of_left ?_)
  unfold Builtin.Int.intBits
  split
  · omega
  · rename_i h0
    have h0' : c.natAbs ≠ 0 := by simp at h0; omega
    have : c.natAbs.log2 < 31 := (Nat.log2_lt h0').mpr (by omega)
    omega
end
theorem due_none {sg : Int} {cs : List Int} (h : 1 < (ptsFrom 0 cs).length ∨ badOf (numsOf cs) ≠ [] ∨ (numsOf cs).length < 1 ∨ 40 < (numsOf cs).length) : dueTail sg cs = .none := by
  unfold dueTail
  by_cases a : 1 < (ptsFrom 0 cs).length ∨ badOf (numsOf cs) ≠ []
  · rw [if_pos a]
  · rw [if_neg a]
    have b : (numsOf cs).length < 1 ∨ 40 < (numsOf cs).length := by
      rcases h with h | h | h
      · exact absurd (.inl h) a
      · exact absurd (.inr h) a
      · exact h
    rw [if_pos b]
theorem due_go {sg : Int} {cs : List Int} (h1 : ¬ 1 < (ptsFrom 0 cs).length) (h2 : badOf (numsOf cs) = []) (h3 : ¬ (numsOf cs).length < 1) (h4 : ¬ 40 < (numsOf cs).length) : dueTail sg cs = (match ptsFrom 0 cs with
    | [] => .whole (sg * (wtsFrom 0 (numsOf cs).reverse).sum)
    | p :: _ => .real (normI ((cs.length : Int) - 1 - p).toNat (sg * (wtsFrom 0 (numsOf cs).reverse).sum)).1 (normI ((cs.length : Int) - 1 - p).toNat (sg * (wtsFrom 0 (numsOf cs).reverse).sum)).2) := by
  unfold dueTail
  rw [if_neg (fun h => h.elim h1 (fun h => h h2)), if_neg (fun h => h.elim h3 h4)]
theorem ret_dn {rest : List (Addr × Obj)} {sg : Int} {ks : List Int} {T : Addr} {t1 : Tok} {n : Nat} (hsg : (if ks.head? = some 45 then (-1 : Int) else 1) = sg) (h : 1 < (ptsFrom 0 (rdBody ks)).length ∨ badOf (numsOf (rdBody ks)) ≠ [] ∨ (numsOf (rdBody ks)).length < 1 ∨ 40 < (numsOf (rdBody ks)).length) :
    RetTup rest (dueD ks) (.ref T) ((T, tupO [.str (Str.ofString "none") t1] n) :: rest) := by
  unfold dueD
  rw [hsg, due_none h]
  exact ⟨T, t1, n, rfl, rfl⟩
theorem ret_dw {rest : List (Addr × Obj)} {sg : Int} {ks : List Int} {T : Addr} {t1 t2 : Tok} {n : Nat} (hsg : (if ks.head? = some 45 then (-1 : Int) else 1) = sg) (h1 : ¬ 1 < (ptsFrom 0 (rdBody ks)).length) (h2 : badOf (numsOf (rdBody ks)) = []) (h3 : ¬ (numsOf (rdBody ks)).length < 1) (h4 : ¬ 40 < (numsOf (rdBody ks)).length)
    (h5 : ptsFrom 0 (rdBody ks) = []) : RetTup rest (dueD ks) (.ref T) ((T, tupO [.str (Str.ofString "whole") t1, .int (sg * (wtsFrom 0 (numsOf (rdBody ks)).reverse).sum) t2] n) :: rest) := by
  unfold dueD
  rw [hsg, due_go h1 h2 h3 h4, h5]
  exact ⟨T, t1, t2, n, rfl, rfl⟩
theorem ret_dr {rest : List (Addr × Obj)} {sg X P : Int} {ks : List Int} {T : Addr} {t1 t2 t3 : Tok} {n : Nat} (hsg : (if ks.head? = some 45 then (-1 : Int) else 1) = sg) (h1 : ¬ 1 < (ptsFrom 0 (rdBody ks)).length) (h2 : badOf (numsOf (rdBody ks)) = []) (h3 : ¬ (numsOf (rdBody ks)).length < 1) (h4 : ¬ 40 < (numsOf (rdBody ks)).length)
    (h5 : ¬ ptsFrom 0 (rdBody ks) = []) (hn : normI (((rdBody ks).length : Int) - 1 - (ptsFrom 0 (rdBody ks)).getD 0 0).toNat (sg * (wtsFrom 0 (numsOf (rdBody ks)).reverse).sum) = (X, P)) :
    RetTup rest (dueD ks) (.ref T) ((T, tupO [.str (Str.ofString "real") t1, .int X t2, .int P t3] n) :: rest) := by
  unfold dueD
  rw [hsg, due_go h1 h2 h3 h4]
  cases hp : ptsFrom 0 (rdBody ks) with
  | nil => exact absurd hp h5
  | cons p r =>
    rw [hp] at hn
    have hn' : normI (((rdBody ks).length : Int) - 1 - p).toNat (sg * (wtsFrom 0 (numsOf (rdBody ks)).reverse).sum) = (X, P) := hn
    simp only [hn']
    exact ⟨T, t1, t2, t3, n, rfl, rfl⟩
set_option maxRecDepth 100000 in
set_option maxHeartbeats 2000000 in
theorem c_due (w : World) (l : Addr) (us : List Value) (ks : List Int) (c : Nat) (hi : IntsAre us ks) (hlen : ks.length ≤ 1000) (rest : List (Addr × Obj)) :
   Tag PySem.Challenge.rw_nn0197_01 hd.heap_39 (Cal w 162 [.ref l] ((l, W.listOf us.toArray c) :: rest) 5 500 (fun r news' => RetTup ((l, W.listOf us.toArray c) :: rest) (dueD ks) r news')) := by
  w_top off
  k_with_none
  k_with "exec Assign cons ListComp" => (k_here; (with_reducible show wpAny _ _ (exec (Stmt.Assign [PySem.Expr.Name _ _] (PySem.Expr.ListComp _ [Comprehension.mk (PySem.Expr.Tuple [PySem.Expr.Name _ _, PySem.Expr.Name _ _] _ _) _ [_] _] _ _) _) _) _ _ _); k_dflt (refine en_Assign_ListComp (_F₀ := by k_asm) (by rfl) (by with_unfolding_all rfl) (by with_unfolding_all rfl) (by decide) (by rfl) (by decide) (by rfl) (by rfl) (by decide) (by rfl) (by rfl) ?_))
  k_with "exec Assign cons ListComp" => (k_here; (with_reducible show wpAny _ _ (exec (Stmt.Assign [PySem.Expr.Name _ _] (PySem.Expr.ListComp _ [Comprehension.mk (PySem.Expr.Name _ _) _ [_] _] _ _) _) _) _ _ _); k_dflt (refine LCt.Assign_ListComp_T (F₀ := by k_asm) (by rfl) (by with_unfolding_all rfl) (by with_unfolding_all rfl) (by decide) (by rfl) (by decide) (by rfl) (by rfl) (by rfl) ?_))
  k_with "call type:enumerate" => (k_here; (with_reducible show wpAny _ _ (call (Value.type "enumerate") [Value.ref _]) _ _ _); k_dflt (refine' en_JP ?hh_z ?F_z ?N_z ?S_z ?hi_z ?hz_z ?_ ?_; (case hh_z => rfl); (case F_z => k_asm); (case N_z => k_asm); (case S_z => k_mem); (case hi_z => assumption); (case hz_z => lcg_off)); (intro g i c t u ys e it C D oe ot oC m2 h tk E' hc hJ hC ha hb F' N'); rotate_left; (intro g ys hJ; have hJd := hJ.done; clear hJ; (try dsimp only)); rotate_right)
  k_with "subscriptTail Name Constant ref int" => (k_here; (have hpos := len_pos (by assumption)); (have hpts := pts_at hpos); k_dflt (refine' item0 ?k1_z ?k2_z ?k4_z ?_ ?k6_z; (case k1_z => is_list); (case k2_z => assumption); (case k4_z => assumption); (case k6_z => with_unfolding_all rfl)); intro t)
  k_with "subscriptTail Name Constant ref int" => (k_here; (with_reducible rename List.take 1 _ = _ => hT1); (have hpos := take1_pos hT1); k_dflt (refine' item0 ?k1_z ?k2_z ?k4_z ?_ ?k6_z; (case k1_z => is_list); (case k2_z => assumption); (case k4_z => assumption); (case k6_z => with_unfolding_all rfl)); intro t)
  k_with "call type:enumerate" => (k_here; (with_reducible show wpAny _ _ (call (Value.type "enumerate") [Value.ref _]) _ _ _); k_dflt (refine' en_JW ?hh_z ?F_z ?N_z ?S_z ?hi_z ?hz_z ?_ ?_; (case hh_z => rfl); (case F_z => k_asm); (case N_z => k_asm); (case S_z => k_mem); (case hi_z => assumption); (case hz_z => lcg_off)); (intro g i c t u ys e it C D oe ot oC m2 h tk E' hc hJ hC ha hb F' N'; (have hbn := bad_none (of_decide_eq_true (by assumption)) hc); (have hlt := at_lt hc)); rotate_left; (intro g ys hJ; have hJd := hJ.done; clear hJ; (try dsimp only)); rotate_right)
  k_with "CompSrcT" => (k_here; (with_reducible show LCt.CompSrcT _ _ _ _ _ _ _ _ (PySem.Expr.BinOp _ _ _ _) _ _ _ _ _ _); k_dflt (refine' comp_JN ?hh_z ?F_z ?N_z ?hm_z ?hi_z ?hz_z ?_ ?_; (case hh_z => rfl); (case F_z => k_asm); (case N_z => k_asm); (case hm_z => k_mem); (case hi_z => assumption); (case hz_z => lcg_off)); (intro g i c t ys I oI C oC D m2 h tk E' hc hJ hC ha F' N'); rotate_left; (intro g ys hJ; have hJd := hJ.done; clear hJ; (try dsimp only)); rotate_right)
  k_with "CompSrcT" => (k_here; (with_reducible show LCt.CompSrcT _ _ _ _ _ _ _ _ (PySem.Expr.Name _ _) _ _ _ _ _ _); k_dflt (refine' comp_JB ?hh_z ?F_z ?N_z ?hm_z ?hi_z ?hz_z ?_ ?_; (case hh_z => rfl); (case F_z => k_asm); (case N_z => k_asm); (case hm_z => k_mem); (case hi_z => assumption); (case hz_z => lcg_off)); (intro g i c t ys I oI C oC D m2 h tk E' hc hJ hC ha F' N'); rotate_left; (intro g ys hJ; have hJd := hJ.done; clear hJ; (try dsimp only)); rotate_right)
  k_with "EnEnd" => k_dflt (refine' EnEnd.intro ?F_z ?N_z ?sub_z ?r_z; (case F_z => k_asm); (case N_z => k_asm); (case sub_z => exact fun p hp => by repeat (first | exact hp | refine List.Mem.tail _ ?_)); (case r_z => first | exact JP.yes (by assumption) (by assumption) (by assumption) | exact JP.no (by assumption) (by assumption) (by assumption) | exact JN.yes (by assumption) (by assumption) (by assumption) | exact JN.no (by assumption) (by assumption) (by omega) | exact JB.yes (by assumption) (by assumption) (by omega) | exact JB.no (by assumption) (by assumption) (by omega) | exact JW.next (by assumption) (by assumption) (by assumption)))
  k_with "eval ListComp" => (k_here; (with_reducible show wpAny _ _ (eval (PySem.Expr.ListComp _ [Comprehension.mk (PySem.Expr.Tuple [PySem.Expr.Name _ _, PySem.Expr.Name _ _] _ _) _ [] _] _ _) _) _ _ _); k_dflt (refine en_ListComp (_F₀ := by k_asm) (by with_unfolding_all rfl) (by decide) (by rfl) (by decide) (by rfl) (by rfl) (by decide) ?_))
  k_with "eval ListComp" => (k_here; (with_reducible show wpAny _ _ (eval (PySem.Expr.ListComp _ [Comprehension.mk (PySem.Expr.Name _ _) _ [_] _] _ _) _) _ _ _); k_dflt (refine LCt.ListComp_T (F₀ := by k_asm) (by with_unfolding_all rfl) (by decide) (by rfl) (by decide) (by rfl) ?_))
  k_with "binaryOp Pow int int" => (k_here; (refine' pow_cs ?k1_z ?k2_z ?_; (case k1_z => omega); (case k2_z => omega)); intro k v tk hk)
  k_with "binaryOp Mult int int" => (k_here; (refine' mul_cs9 ?k1_z ?k2_z ?_; (case k1_z => omega); (case k2_z => omega)); intro v tk)
  k_fill
  unfold Tag Cal
  intros
  rename_i hret
  refine wpAny_call ?_
  k_dflt cell_enter
  walk1
  walk1
  walk1
  walk1
  walk1
  dsimp only
  k_dflt (refine cut_due (rest := (l, W.listOf us.toArray c) :: rest) (ks := ks) (by k_asm) ?_ ?_)
  · k_steps
    · obtain ⟨e1, e2, e3⟩ := head45 (by assumption)
      refine MidD.intro (by assumption) (by assumption) (by rfl) (by rfl) (fun z z1 z2 => ?_) (by k_mem) (List.forall_mem_cons.mpr ⟨by k_mem, fun p hp => by repeat (first | exact hp | refine List.Mem.tail _ ?_)⟩) (by rw [e1]; show -1 = 44 - ks.getD 0 0; rw [e2]; rfl) (by rw [e3]; assumption)
      simp [z1, z2]
    · obtain ⟨e1, e2, e3⟩ := head43 (by assumption)
      refine MidD.intro (by assumption) (by assumption) (by rfl) (by rfl) (fun z z1 z2 => ?_) (by k_mem) (List.forall_mem_cons.mpr ⟨by k_mem, fun p hp => by repeat (first | exact hp | refine List.Mem.tail _ ?_)⟩) (by rw [e1]; show 1 = 44 - ks.getD 0 0; rw [e2]; rfl) (by rw [e3]; assumption)
      simp [z1, z2]
    · obtain ⟨e1, e3⟩ := headNo (by assumption) (by assumption)
      refine MidD.intro (by assumption) (by assumption) (by rfl) (by rfl) (fun z z1 z2 => ?_) (by k_mem) (List.forall_mem_cons.mpr ⟨by k_mem, fun p hp => by repeat (first | exact hp | refine List.Mem.tail _ ?_)⟩) e1 (by rw [e3]; assumption)
      simp [z1, z2]
  · intro s2 hM
    obtain ⟨l2, us2, c2, t2, h2, tk2, rfl, F', N', hI2⟩ := hM
    obtain ⟨sg, hsg, hs1, hs2⟩ : ∃ sg : Int, (if ks.head? = some 45 then (-1 : Int) else 1) = sg ∧ -1 ≤ sg ∧ sg ≤ 1 := ⟨_, rfl, by split <;> omega, by split <;> omega⟩
    rw [hsg] at F'
    have hl2 : (rdBody ks).length ≤ 1000 := Nat.le_trans (rdBody_len ks) hlen
    have hl3 : (numsOf (rdBody ks)).length ≤ 1000 := Nat.le_trans (numsOf_len _) hl2
    have hl4 : (ptsFrom 0 (rdBody ks)).length ≤ 1000 := Nat.le_trans (ptsFrom_len _ _) hl2
    have hl5 : (badOf (numsOf (rdBody ks))).length ≤ 1000 := Nat.le_trans (badOf_len _) hl3
    clear hlen
    k_with "exec While BoolOp cons nil" => k_while (fun _ t p => NormR (sg * (wtsFrom 0 (numsOf (rdBody ks)).reverse).sum) (((rdBody ks).length : Int) - 1 - (ptsFrom 0 (rdBody ks)).getD 0 0) t p) (fun _ t p => p.toNat) "top" "places"
    k_with "state" => (with_reducible (first | exact NormR.start (by omega) | exact NormR.step (by assumption) (by omega) (by omega)))
    k_steps
    all_goals first
      | refine' hret _ _ _ _ (by k_asm) (cb_drop (by k_asm) (List.forall_mem_cons.mpr ⟨by k_mem, List.forall_mem_cons.mpr ⟨by k_mem, fun p hp => by repeat (first | exact hp | refine List.Mem.tail _ ?_)⟩⟩)) (ret_dn hsg (by first | exact .inl (by omega) | exact .inr (.inl (of_decide_eq_false (by assumption))) | exact .inr (.inr (.inl (by omega))) | exact .inr (.inr (.inr (by omega)))))
      | refine' hret _ _ _ _ (by k_asm) (cb_drop (by k_asm) (List.forall_mem_cons.mpr ⟨by k_mem, List.forall_mem_cons.mpr ⟨by k_mem, fun p hp => by repeat (first | exact hp | refine List.Mem.tail _ ?_)⟩⟩)) (ret_dw hsg (by omega) (of_decide_eq_true (by assumption)) (by omega) (by omega) (of_decide_eq_true (by assumption)))
      | (rename NormR _ _ _ _ => hnr; refine' hret _ _ _ _ (by k_asm) (cb_drop (by k_asm) (List.forall_mem_cons.mpr ⟨by k_mem, List.forall_mem_cons.mpr ⟨by k_mem, fun p hp => by repeat (first | exact hp | refine List.Mem.tail _ ?_)⟩⟩)) (ret_dr hsg (by omega) (of_decide_eq_true (by assumption)) (by omega) (by omega) (of_decide_eq_false (by assumption)) (hnr.done (by omega))))
      | skip
end TDue1W
end Mine

namespace Mine
section TOct0
open PySem.Spec PyProof.Rows.LCg
set_option maxHeartbeats 1000000

section
variable {prog : Program} {w : World} {A : Around} {E : Value → Shared → Prop} {s : Shared} {h₀ : Heap} {L : Addr} {m : Str → Option Value} {env : Env}

/-- a text, and the turns over its signs -/
def StrSrc (prog : Program) (w : World) (A : Around) (h₀ : Heap) (L : Addr) (m : Str → Option Value) (env : Env) (elt : PySem.Expr) (x : Str) (scope : Scope) (cl : List (Str × Addr)) (Fin : Shared → List Value → List (Addr × Obj) → Prop) (xv : Value) (s₁ : Shared) : Prop :=
  ∃ (v : Str) (tv : Tok) (news : List (Addr × Obj)), xv = .str v tv ∧ A.handled = none ∧ Fr h₀ L s₁.heap m ∧ News h₀ L s₁.heap news ∧ v.cps.size ≤ sizeLine ∧
    ∀ g : Heap, CompRest prog w A h₀ L m env elt x scope cl { s₁ with heap := g } (fun _ => True) (SignAt v) (Fin { s₁ with heap := g }) v.cps.size 0 [] news

theorem str_ListComp {elt iter : PySem.Expr} {x : Str} {px : Pos} {scope : Scope} {cl : List (Str × Addr)} {pos : Pos} {Q : Value → Shared → Prop} (_F₀ : Fr h₀ L s.heap m)
    (hclos : closureFor scope env = pure cl) (hcell : ∀ y ∈ scope.names, y.2 ≠ .cell) (hkind : scope.kind = .function)
    (hnames : ∀ y ∈ scope.names, y.2 = .local → scope.names.lookup y.1 = some .local) (hx : scope.names.lookup x = some .local)
    (h : wpAny (model prog w) A (eval iter env) (StrSrc prog w A h₀ L m env elt x scope cl (fun s₂ => FinE h₀ L m s₂ Q)) E s)
    (hs : ∀ x, foldedSetIterable iter env x = pure x := by intro _; rfl) :
    wpAny (model prog w) A (eval (.ListComp elt [⟨.Name x px, iter, [], 0⟩] scope pos) env) Q E s := by
  rw [eval_ListComp]
  refine wpAny_comprehension_free (use := none) rfl hs hclos hkind hnames (wpAny_mono h (fun xv s₁ h₁ => ?_) fun _ _ e => e)
  obtain ⟨v, tv, news, rfl, hh, F, N, hsz, R⟩ := h₁
  have fin : ∀ (o : Obj) (D C : Addr) (h : Heap) (tk : Nat) (m' : Str → Option Value) (ys : List Value) (news' : List (Addr × Obj)), Fr h₀ L h m → News h₀ L h ((D, lst ys) :: news') → Off1 D news' → h.Ns C m' → h₀.get? C = none → h₀.get? D = none → C ≠ L → D ≠ L → C ≠ D → (∀ p ∈ news', p.1 ≠ C) →
      FinE h₀ L m { s₁ with heap := s₁.heap.push o } Q ys news' → compPost (model prog w) A E none Q (.ref D) C (.ok .next) { s₁ with heap := h, toks := tk } := by
    intro o D C h tk m' ys news' F' N' o1 hn hC₀ hD₀ hCL hDL hCD offC fin
    refine ⟨m', hn, fun h'' hs'' => fin D h'' tk (F'.change hs'' hCL hC₀) (fun p hp => ?_) o1⟩
    refine ⟨hs''.extBut _ _ ?_ (N' p hp).1, (N' p hp).2⟩
    rcases List.mem_cons.mp hp with rfl | hp
    · exact Ne.symm hCD
    · exact offC p hp
  have both : ∀ (o : Obj) (St : Nat → Heap → Prop), Walks prog w A s₁.heap.objs.size [s₁.heap.objs.size] [s₁.heap.objs.size] v.cps.size (SignAt v) St → St 0 (s₁.heap.push o) → (∀ i h, St i h → ∃ o, h.get? s₁.heap.objs.size = some o) →
      wpAny (model prog w) A (newList []) (fun acc s₃ => wpAny (model prog w) A (newFunctionEnv scope env.globals cl [] env.qual none .none (some env)) (fun cenv s₄ =>
        codeAny (model prog w) A (.compStart (.ListComp elt [⟨.Name x px, iter, [], 0⟩] scope pos) 0 (.ref s₁.heap.objs.size) acc { cenv with scope := relabel scope env }) (compPost (model prog w) A E none Q acc cenv.locals) s₄) E s₃) E { s₁ with heap := s₁.heap.push o } := by
    intro o St W st0 hIo
    refine block_U W hsz hIo (fun i h h' ob nw st e1 e2 _ _ _ => W.frame i h h' st fun b hb o' e => ?_) hcell hkind hx st0 (fun b hb => ?_) (F.push _) (fun p hp => ⟨Heap.get?_push_of_some _ (N p hp).1, (N p hp).2⟩) (Nat.ne_of_lt F.ns.lt) (next_is_new F) (fun p hp => Nat.ne_of_lt (Heap.lt_size (N p hp).1)) trivial (R _) (fin o)
    · rw [List.mem_singleton.mp hb] at e ⊢
      rw [e1] at e
      rw [e2, ← e]
    · rw [List.mem_singleton.mp hb]
      show s₁.heap.objs.size < (s₁.heap.push _).objs.size
      rw [Heap.size_push]; exact Nat.lt_succ_self _
  cases ha : v.cps.all (· < 128)
  · exact wpAny_pyIter_wide ha (both _ _ (Walks.strWide hh _ v tv) ⟨_, Heap.get?_push_size _ rfl, rfl, rfl⟩ fun i h st => by obtain ⟨o, e, _⟩ := st; exact ⟨o, e⟩)
  · exact wpAny_pyIter_ascii ha (both _ _ (Walks.strAscii hh _ v tv) ⟨_, Heap.get?_push_size _ rfl, rfl, rfl⟩ fun i h st => by obtain ⟨o, e, _⟩ := st; exact ⟨o, e⟩)

/-- the codes of a text's signs, turn by turn -/
def JO (cs : List Nat) (i : Nat) (ys : List Value) : Prop := IntsAre ys ((cs.take i).map fun (c : Nat) => (c : Int))
theorem JO.start (cs : List Nat) : JO cs 0 [] := by unfold JO; rw [List.take_zero]; exact IntsAre.nil
theorem JO.next {cs : List Nat} {i : Nat} {ys : List Value} {c : Nat} {t : Tok} (h : JO cs i ys) (hc : cs[i]? = some c) : JO cs (i + 1) (ys ++ [.int (c : Int) t]) := by
  unfold JO at *
  rw [List.take_add_one, hc]
  simp only [Option.toList_some, List.map_append, List.map_cons, List.map_nil]
  exact h.append (.cons _ _ .nil)
theorem JO.done {cs : List Nat} {ys : List Value} (h : JO cs cs.length ys) : IntsAre ys (cs.map fun (c : Nat) => (c : Int)) := by unfold JO at h; rw [List.take_length] at h; exact h

theorem str_src {elt : PySem.Expr} {x : Str} {scope : Scope} {cl : List (Str × Addr)} {Fin : Shared → List Value → List (Addr × Obj) → Prop} {v : Str} {tv : Tok} {cs : List Nat} {news : List (Addr × Obj)}
    (hh : A.handled = none) (F : Fr h₀ L s.heap m) (N : News h₀ L s.heap news) (hv : v.cps.toList = cs) (hz : cs.length ≤ 100000)
    (turn : ∀ (g : Heap) (i : Nat) (c : Nat) (u : Tok) (ys : List Value) I oI C oC D m₂ h tk (E' : Value → Shared → Prop), cs[i]? = some c → JO cs i ys → NsObj oC m₂ → m₂ x = some (.str ⟨#[c]⟩ u) → Fr h₀ L h m → News h₀ L h ((I, oI) :: (C, oC) :: (D, lst ys) :: news) →
      wpAny (model prog w) A (eval elt (compEnvC scope cl C env)) (EnEnd h₀ L m { s with heap := h, toks := tk } ((I, oI) :: (C, oC) :: (D, lst ys) :: news) (fun y => JO cs (i + 1) (ys ++ [y]))) E' { s with heap := h, toks := tk })
    (fin : ∀ g ys, JO cs cs.length ys → Fin { s with heap := g } ys news) : StrSrc prog w A h₀ L m env elt x scope cl Fin (.str v tv) s := by
  have hsz : v.cps.size = cs.length := length_cs hv
  refine ⟨v, tv, news, rfl, hh, F, N, by rw [hsz, sizeLine_eq]; omega, fun g => ?_⟩
  rw [hsz]
  have all : ∀ k i ys, i + k = cs.length → JO cs i ys → CompRest prog w A h₀ L m env elt x scope cl { s with heap := g } (fun _ => True) (SignAt v) (Fin { s with heap := g }) k i ys news := by
    intro k
    induction k with
    | zero => intro i ys e hj; exact CompRest.zero (fin _ _ (by rw [← e]; exact hj))
    | succ k ih =>
      intro i ys e hj
      refine CompRest.succ ?_
      intro y I oI C oC D m₂ h tk E' hP hN hx F N O ne
      obtain ⟨c, u, hc, rfl⟩ := hP
      have hc' : cs[i]? = some c := by rw [← hv, Array.getElem?_toList]; exact hc
      refine wpAny_mono (turn g i c u ys I oI C oC D m₂ h tk E' hc' hj hN hx F N) (fun y s₂ hy => ?_) (fun _ _ e => e)
      obtain ⟨h', tk', rfl, F', N', hj'⟩ := hy
      exact ⟨h', tk', news, rfl, F', N', O, trivial, ih (i + 1) _ (by omega) hj'⟩
  exact all cs.length 0 [] (by omega) (JO.start cs)
end
end TOct0
end Mine

namespace Mine
section TOct1W

theorem ord_cs {prog : Program} {w : World} {A : Around} {E : Value → Shared → Prop} {s : Shared} {Q : Value → Shared → Prop} {c : Nat} {t : Tok} (h : ∀ v tk, Q (.int (c : Int) v) { s with toks := tk }) : wpAny (model prog w) A (call (.builtin "ord") [.str ⟨#[c]⟩ t]) Q E s :=
  ord_of_one rfl (h _ _)
theorem in_bytes {cs : List Nat} (h : ∀ c ∈ cs, c < 256) : KBa.In (cs.map fun (c : Nat) => (c : Int)) := by
  intro n hn
  obtain ⟨c, hc, rfl⟩ := List.mem_map.mp hn
  have := h c hc
  omega
local macro_rules | `(tactic| walk_at $s:str) => `(tactic| k_extra $s)
set_option maxRecDepth 100000 in
set_option maxHeartbeats 2000000 in
theorem c_oct (w : World) (v : Str) (tv : Tok) (cs : List Nat) (hb : v.cps.toList = cs) (hlen : cs.length ≤ 1000) (hin : ∀ c ∈ cs, c < 256) (rest : List (Addr × Obj)) :
   Tag PySem.Challenge.rw_nn0197_01 hd.heap_39 (Cal w 174 [.str v tv] rest 5 500 (fun r news' => 
     (∃ (b : Array UInt8) (t : Tok), r = .bytes b t ∧ KBw.bInts b = cs.map fun (c : Nat) => (c : Int)) ∧ news' = rest)) := by
  have hin' := in_bytes hin
  w_top off
  k_with_none
  k_with "eval ListComp" => (k_here; (with_reducible show wpAny _ _ (eval (PySem.Expr.ListComp _ [Comprehension.mk (PySem.Expr.Name _ _) _ [] _] _ _) _) _ _ _); k_dflt (refine str_ListComp (_F₀ := by k_asm) (by with_unfolding_all rfl) (by decide) (by rfl) (by decide) (by rfl) ?_))
  k_with "StrSrc" => (k_here; k_dflt (refine' str_src ?hh_z ?F_z ?N_z ?hv_z ?hz_z ?_ ?_; (case hh_z => rfl); (case F_z => k_asm); (case N_z => k_asm); (case hv_z => assumption); (case hz_z => omega)); (intro g i c u ys I oI C oC D m2 h tk E' hc hJ hC ha F' N'); rotate_left; (intro g ys hJ; have hJd := hJ.done; clear hJ; (try dsimp only)); rotate_right)
  k_with "call builtin:ord" => (k_here; (with_reducible refine ord_cs ?_); intro _ _)
  k_with "EnEnd" => k_dflt (refine' EnEnd.intro ?F_z ?N_z ?sub_z ?r_z; (case F_z => k_asm); (case N_z => k_asm); (case sub_z => exact fun p hp => by repeat (first | exact hp | refine List.Mem.tail _ ?_)); (case r_z => exact JO.next (by assumption) (by assumption)))
  k_with "call type:bytes" => (k_here; (with_reducible show wpAny _ _ (call (Value.type "bytes") [Value.ref _]) _ _ _); k_dflt (refine' KBa.make_K ?kbaF_z ?kbaN_z ?kbah_z ?kbal_z ?kbai_z ?kbar_z ?kban_z ?_; (case kbaF_z => k_asm); (case kbaN_z => k_asm); (case kbah_z => rfl); (case kbal_z => is_list); (case kbai_z => assumption); (case kbar_z => assumption); (case kban_z => (simp only [List.length_map]; omega))); intro h9 t9 k9 F' N' kbaIn)
  k_fill
  unfold Tag Cal
  intros
  rename_i hret
  refine wpAny_call ?_
  k_dflt cell_enter
  k_steps
  refine' hret _ _ _ _ (by k_asm) (cb_drop (by k_asm) (fun p hp => List.mem_cons_of_mem _ hp)) ⟨⟨_, _, rfl, KBa.ints_make hin'⟩, rfl⟩
end TOct1W
end Mine

namespace Mine
section THeard1W

theorem use_read {w : World} {b : Array UInt8} {ks : List Int} {tb : Tok} {news : List (Addr × Obj)}
   {p : Program} {loose : List Str} {mean : ExcName → Option Value} {mg mb : Str → Option Value} {dp un : Nat} {gd : Option (List Code)} {cn : Str} {cs : Scope} {a : Addr} {ccd : Value} {cl : List (Str × Addr)} {outer : List Env} {A₀ : Around} {base h₀ : Heap} {L : Addr} {m : Str → Option Value} {s : Shared} {Q E : Value → Shared → Prop}
   (B : Below A₀ base outer h₀) (F : Fr h₀ L s.heap m) (X : (hd.heap_39 w.params).In h₀) (N : News h₀ L s.heap news) (Tp : Top p loose mean mg mb h₀) (hk : cs.kind = .function)
   (hb : KBw.bInts b = ks) (hlen : ks.length ≤ 1000)
   (hd : dp + 5 < recursionLimit) (hu : un + 500 < cLine)
   (h0 : ∀ h' tk', readD ks = .none → Fr h₀ L h' m → News h₀ L h' news → Q .none { s with heap := h', toks := tk' })
   (h1 : ∀ t tk h' tk', readD ks = .whole t → Fr h₀ L h' m → News h₀ L h' news → Q (.int t tk) { s with heap := h', toks := tk' })
   (h2 : ∀ T P x dx k1 k2 t1 t2 h' tk', readD ks = .real T P → dx < x → (∀ p ∈ news, p.1 < dx) → Fr h₀ L h' m → News h₀ L h' ((x, instObj 115 dx) :: (dx, decD w T P k1 k2 t1 t2) :: news) → Q (.ref x) { s with heap := h', toks := tk' }) :
   wpAny (model PySem.Challenge.rw_nn0197_01.row.prog w) (ktrTop dp un gd cn cs L a ccd cl outer) (call (.ref 133) [.bytes b tb]) Q E s := by
  have C := c_read w b ks tb hb hlen news
  unfold Tag Cal at C
  refine C p loose mean mg mb dp un gd cn cs a ccd cl outer A₀ base h₀ L m s Q E B F X N Tp hk hd hu ?_
  intro r news' h' tk' F' N' R
  cases hd : readD ks with
  | none =>
    rw [hd] at R
    obtain ⟨rfl, rfl⟩ := R
    exact h0 h' tk' hd F' N'
  | whole t =>
    rw [hd] at R
    obtain ⟨⟨tk, rfl⟩, rfl⟩ := R
    exact h1 t tk h' tk' hd F' N'
  | real T P =>
    rw [hd] at R
    obtain ⟨x, dx, k1, k2, t1, t2, rfl, l1, l2, rfl⟩ := R
    exact h2 T P x dx k1 k2 t1 t2 h' tk' hd l1 l2 F' N'

theorem ret_h0 {rest : List (Addr × Obj)} {d : Rd} {T : Addr} {t1 : Tok} {n : Nat} (h : d = .none) : RetTup rest d (.ref T) ((T, tupO [.str (Str.ofString "none") t1] n) :: rest) := by
  subst h; exact ⟨T, t1, n, rfl, rfl⟩
theorem ret_h1 {rest : List (Addr × Obj)} {d : Rd} {x : Int} {T : Addr} {t1 t2 : Tok} {n : Nat} (h : d = .whole x) : RetTup rest d (.ref T) ((T, tupO [.str (Str.ofString "whole") t1, .int x t2] n) :: rest) := by
  subst h; exact ⟨T, t1, t2, n, rfl, rfl⟩
theorem ret_h2 {rest : List (Addr × Obj)} {d : Rd} {x p : Int} {T : Addr} {t1 t2 t3 : Tok} {n : Nat} (h : d = .real x p) : RetTup rest d (.ref T) ((T, tupO [.str (Str.ofString "real") t1, .int x t2, .int p t3] n) :: rest) := by
  subst h; exact ⟨T, t1, t2, t3, n, rfl, rfl⟩
local macro_rules | `(tactic| walk_at $s:str) => `(tactic| k_extra $s)
set_option maxRecDepth 100000 in
set_option maxHeartbeats 2000000 in
theorem c_heard (w : World) (b : Array UInt8) (ks : List Int) (tb : Tok) (hb : KBw.bInts b = ks) (hlen : ks.length ≤ 1000) (rest : List (Addr × Obj)) :
   Tag PySem.Challenge.rw_nn0197_01 hd.heap_39 (Cal w 169 [.bytes b tb] rest 7 600 (fun r news' => RetTup rest (readD ks) r news')) := by
  w_top off
  k_with_none
  k_with "call ref" => (k_here; (with_reducible show wpAny _ _ (call (Value.ref 133) [Value.bytes _ _]) _ _ _); k_dflt (refine' use_read ?k1_z ?k2_z ?k3_z ?k4_z ?k5_z ?kK_z ?hb_z ?hl_z ?kd_z ?ku_z ?_ ?_ ?_; (case k1_z => k_asm); (case k2_z => k_asm); (case k3_z => k_asm); (case k4_z => k_asm); (case k5_z => k_asm); (case kK_z => first | exact rfl | assumption); (case hb_z => assumption); (case hl_z => assumption); (case kd_z => ktr_room); (case ku_z => ktr_units)); (intro h9 tk9 hR F' N'); rotate_left; (intro tR tkR h9 tk9 hR F' N'); rotate_left; (intro TR PR xR dxR k1R k2R t1R t2R h9 tk9 hR l1 l2 F' N'); rotate_left)
  k_fill
  unfold Tag Cal
  intros
  rename_i hret
  refine wpAny_call ?_
  k_dflt cell_enter
  k_steps
  · exact hret _ _ _ _ (by k_asm) (by k_asm) (ret_h0 (by assumption))
  · exact hret _ _ _ _ (by k_asm) (by k_asm) (ret_h1 (by assumption))
  · exact hret _ _ _ _ (by k_asm) (cb_drop (by k_asm) (List.forall_mem_cons.mpr ⟨by k_mem, fun p hp => List.mem_cons_of_mem _ (List.mem_cons_of_mem _ (List.mem_cons_of_mem _ hp))⟩)) (ret_h2 (by assumption))
end THeard1W
end Mine

namespace Mine
section TPlain1
open PySem.NumText

theorem snoc_ind {α : Type} {P : List α → Prop} (h0 : P []) (h1 : ∀ l a, P l → P (l ++ [a])) : ∀ l, P l := by
  have h : ∀ l : List α, P l.reverse := by
    intro l
    induction l with
    | nil => exact h0
    | cons a l ih => rw [List.reverse_cons]; exact h1 _ _ ih
  intro l
  have := h l.reverse
  rwa [List.reverse_reverse] at this

/-- the value of figures -/
def valN (ns : List Int) : Int := ns.foldl (fun a c => 10 * a + c) 0
theorem valN_snoc (ns : List Int) (c : Int) : valN (ns ++ [c]) = 10 * valN ns + c := by
  unfold valN; rw [List.foldl_append]; rfl
theorem wts_shift : ∀ (r : List Int) (n : Nat), (wtsFrom (n + 1) r).sum = 10 * (wtsFrom n r).sum
  | [], _ => rfl
  | c :: r, n => by
    have ih := wts_shift r (n + 1)
    simp only [wtsFrom, List.sum_cons, ih, Int.mul_add]
    have : c * (10 : Int) ^ (n + 1) = 10 * (c * 10 ^ n) := by rw [Int.pow_succ]; ac_rfl
    rw [this]
theorem wts_val (ns : List Int) : (wtsFrom 0 ns.reverse).sum = valN ns := by
  induction ns using snoc_ind with
  | h0 => rfl
  | h1 l a ih =>
    rw [List.reverse_append, valN_snoc, ← ih]
    show (wtsFrom 0 (a :: l.reverse)).sum = _
    simp only [wtsFrom, List.sum_cons, wts_shift]
    omega

theorem numsOf_snoc (cs : List Int) (c : Int) : numsOf (cs ++ [c]) = if c = 46 then numsOf cs else numsOf cs ++ [c - 48] := by
  unfold numsOf
  rw [List.filter_append]
  by_cases h : c = 46
  · rw [if_pos h, List.filter_cons_of_neg (by simpa using h)]; simp
  · rw [if_neg h, List.filter_cons_of_pos (by simpa using h)]; simp
theorem badOf_snoc (ns : List Int) (c : Int) : badOf (ns ++ [c]) = if c < 0 ∨ 9 < c then badOf ns ++ [c] else badOf ns := by
  unfold badOf
  rw [List.filter_append]
  by_cases h : c < 0 ∨ 9 < c
  · rw [if_pos h, List.filter_cons_of_pos (by simpa using h)]; rfl
  · rw [if_neg h, List.filter_cons_of_neg (by simpa using h)]; simp

abbrev goodC (cs : List Int) : Prop := (ptsFrom 0 cs).length ≤ 1 ∧ badOf (numsOf cs) = []
def placesOf (cs : List Int) : Int := match ptsFrom 0 cs with
  | [] => -1
  | p :: _ => (cs.length : Int) - 1 - p

theorem fold_scan (cs : List Int) : cs.foldl rdStep (some (0, 0, -1)) = if goodC cs then some (valN (numsOf cs), ((numsOf cs).length : Int), placesOf cs) else none := by
  induction cs using snoc_ind with
  | h0 => rfl
  | h1 l c ih =>
    rw [List.foldl_append, ih]
    have hp := ptsFrom_snoc c l 0
    have hn := numsOf_snoc l c
    rw [Nat.zero_add] at hp
    by_cases hg : goodC l
    · rw [if_pos hg]
      obtain ⟨g1, g2⟩ := hg
      simp only [List.foldl_cons, List.foldl_nil, rdStep]
      by_cases h46 : c = 46
      · rw [if_pos h46] at hp hn
        cases hq : ptsFrom 0 l with
        | nil =>
          have hpl : placesOf l = -1 := by unfold placesOf; rw [hq]
          rw [hq] at hp
          have hgood : goodC (l ++ [c]) := ⟨by rw [hp]; simp, by rw [hn]; exact g2⟩
          rw [if_pos hgood, hpl, if_pos ⟨h46, by decide⟩, hn]
          have : placesOf (l ++ [c]) = 0 := by
            unfold placesOf
            rw [hp]
            simp
          rw [this]
        | cons q r =>
          have hr : r = [] := by
            rw [hq] at g1
            simp at g1
            exact g1
          subst hr
          have hqi := pts_in l 0 q (by rw [hq]; simp)
          have hpl : placesOf l = (l.length : Int) - 1 - q := by unfold placesOf; rw [hq]
          have hbad : ¬ goodC (l ++ [c]) := fun h => by
            have := h.1
            rw [hp, hq] at this
            simp at this
          rw [if_neg hbad, hpl, if_neg (by omega), if_neg (by omega)]
      · rw [if_neg h46] at hp hn
        have hpl : placesOf (l ++ [c]) = if 0 ≤ placesOf l then placesOf l + 1 else placesOf l := by
          unfold placesOf
          rw [hp]
          cases hq : ptsFrom 0 l with
          | nil => rfl
          | cons q r =>
            have hqi := pts_in l 0 q (by rw [hq]; simp)
            simp only [List.length_append, List.length_cons, List.length_nil]
            rw [if_pos (by omega)]
            omega
        rw [if_neg (fun h => h46 h.1)]
        by_cases hd : 48 ≤ c ∧ c ≤ 57
        · have hgood : goodC (l ++ [c]) := ⟨by rw [hp]; exact g1, by rw [hn, badOf_snoc, if_neg (by omega)]; exact g2⟩
          rw [if_pos hd, if_pos hgood, hn, valN_snoc, hpl]
          simp only [List.length_append, List.length_cons, List.length_nil]
          have e1 : 10 * valN (numsOf l) + c - 48 = 10 * valN (numsOf l) + (c - 48) := by omega
          rw [e1]
          rfl
        · have hbad : ¬ goodC (l ++ [c]) := fun h => by
            have := h.2
            rw [hn, badOf_snoc, if_pos (by omega)] at this
            simp at this
          rw [if_neg hd, if_neg hbad]
    · rw [if_neg hg]
      have hbad : ¬ goodC (l ++ [c]) := fun h => hg (by
        obtain ⟨h1, h2⟩ := h
        rw [hp] at h1
        rw [hn] at h2
        refine ⟨?_, ?_⟩
        · split at h1
          · rw [List.length_append] at h1; omega
          · exact h1
        · split at h2
          · exact h2
          · rw [badOf_snoc] at h2
            split at h2
            · simp at h2
            · exact h2)
      rw [if_neg hbad]
      rfl

theorem due_read (ks : List Int) : dueD ks = readD ks := by
  unfold dueD readD
  rw [fold_scan]
  generalize rdBody ks = cs
  have hsg : ∀ v : Int, (if ks.head? = some 45 then (-1 : Int) else 1) * v = if decide (ks.head? = some 45) = true then -v else v := by
    intro v
    by_cases h : ks.head? = some 45
    · rw [if_pos h, if_pos (decide_eq_true h)]; omega
    · rw [if_neg h, if_neg (by simpa using h)]; omega
  by_cases hg : goodC cs
  · rw [if_pos hg]
    obtain ⟨g1, g2⟩ := hg
    unfold dueTail
    rw [if_neg (fun h => h.elim (fun h => absurd g1 (by omega)) (fun h => h g2))]
    simp only [rdEnd]
    by_cases hn : (numsOf cs).length < 1 ∨ 40 < (numsOf cs).length
    · have e1 : ((numsOf cs).length : Int) = 0 ∨ 40 < ((numsOf cs).length : Int) := by omega
      rw [if_pos hn, if_pos e1]
    · have e1 : ¬ (((numsOf cs).length : Int) = 0 ∨ 40 < ((numsOf cs).length : Int)) := by omega
      rw [if_neg hn, if_neg e1]
      rw [wts_val, hsg]
      cases hq : ptsFrom 0 cs with
      | nil =>
        have : placesOf cs = -1 := by unfold placesOf; rw [hq]
        have hlt : placesOf cs < 0 := by rw [this]; decide
        rw [if_pos hlt]
      | cons q r =>
        have hqi := pts_in cs 0 q (by rw [hq]; simp)
        have : placesOf cs = (cs.length : Int) - 1 - q := by unfold placesOf; rw [hq]
        have hlt : ¬ placesOf cs < 0 := by omega
        rw [if_neg hlt, this]
  · rw [if_neg hg]
    unfold dueTail
    have : 1 < (ptsFrom 0 cs).length ∨ badOf (numsOf cs) ≠ [] := by
      by_cases h1 : (ptsFrom 0 cs).length ≤ 1
      · exact .inr fun h2 => hg ⟨h1, h2⟩
      · exact .inl (by omega)
    rw [if_pos this]
    rfl
end TPlain1
end Mine

namespace Mine
section TPlain2
open PySem.NumText

abbrev toI (cs : List Nat) : List Int := cs.map fun (c : Nat) => (c : Int)

/-- what the scan bears -/
theorem scan_facts (cs : List Int) : ∀ t n p, cs.foldl rdStep (some (0, 0, -1)) = some (t, n, p) → -1 ≤ p ∧ p ≤ n ∧ 0 ≤ n ∧ n ≤ (cs.length : Int) ∧ (0 ≤ p → n + 1 ≤ (cs.length : Int)) ∧ 0 ≤ t ∧ t < 10 ^ n.toNat := by
  induction cs using snoc_ind with
  | h0 =>
    intro t n p h
    simp at h
    obtain ⟨rfl, rfl, rfl⟩ := h
    refine ⟨by omega, by omega, by omega, by simp, by omega, by omega, by decide⟩
  | h1 l c ih =>
    intro t n p h
    rw [List.foldl_append] at h
    cases hq : l.foldl rdStep (some (0, 0, -1)) with
    | none => rw [hq] at h; simp [rdStep] at h
    | some s =>
      obtain ⟨t0, n0, p0⟩ := s
      rw [hq] at h
      obtain ⟨a1, a2, a3, a4, a5, a6, a7⟩ := ih t0 n0 p0 hq
      simp only [List.foldl_cons, List.foldl_nil, rdStep] at h
      rw [List.length_append, List.length_cons, List.length_nil]
      by_cases h46 : c = 46 ∧ p0 < 0
      · rw [if_pos h46] at h
        simp at h
        obtain ⟨rfl, rfl, rfl⟩ := h
        exact ⟨by omega, by omega, by omega, by omega, by omega, a6, a7⟩
      · rw [if_neg h46] at h
        by_cases hd : 48 ≤ c ∧ c ≤ 57
        · rw [if_pos hd] at h
          simp at h
          obtain ⟨rfl, rfl, rfl⟩ := h
          have e : (n0 + 1).toNat = n0.toNat + 1 := by omega
          rw [e, Int.pow_succ]
          refine ⟨?_, ?_, by omega, by omega, ?_, by omega, by omega⟩
          · split <;> omega
          · split <;> omega
          · split
            · intro _; have := a5 (by assumption); omega
            · omega
        · rw [if_neg hd] at h
          cases h

theorem normI_facts : ∀ (n : Nat) (t : Int), 0 ≤ (normI n t).2 ∧ (normI n t).2 ≤ (n : Int) ∧ (normI n t).1.natAbs ≤ t.natAbs ∧ normI (normI n t).2.toNat (normI n t).1 = normI n t ∧ ((normI n t).1 < 0 ↔ t < 0)
  | 0, t => ⟨Int.le_refl _, Int.le_refl _, Nat.le_refl _, rfl, Iff.rfl⟩
  | n + 1, t => by
    by_cases h : t.fmod 10 = 0
    · have q : normI (n + 1) t = normI n (t.fdiv 10) := by
        show (if t.fmod 10 = 0 then normI n (t.fdiv 10) else _) = _
        rw [if_pos h]
      rw [q]
      obtain ⟨a, b, c, d, e⟩ := normI_facts n (t.fdiv 10)
      have hm : t = 10 * t.fdiv 10 := by
        have := Int.mul_fdiv_add_fmod t 10
        omega
      refine ⟨a, by push_cast; omega, by omega, d, ?_⟩
      rw [e]
      omega
    · have q : normI (n + 1) t = (t, ((n + 1 : Nat) : Int)) := by
        show (if t.fmod 10 = 0 then _ else (t, ((n + 1 : Nat) : Int))) = _
        rw [if_neg h]
      rw [q]
      refine ⟨by show 0 ≤ ((n + 1 : Nat) : Int); omega, Int.le_refl _, Nat.le_refl _, ?_, Iff.rfl⟩
      show normI (((n + 1 : Nat) : Int)).toNat t = _
      rw [Int.toNat_natCast, q]

theorem pow_le_natAbs {t : Int} {n : Nat} (h0 : 0 ≤ t) (h : t < 10 ^ n) : t.natAbs < 10 ^ n := by
  have : (t.natAbs : Int) = t := Int.natAbs_of_nonneg h0
  have h2 : ((t.natAbs : Nat) : Int) < ((10 ^ n : Nat) : Int) := by push_cast; omega
  exact Int.ofNat_lt.mp h2
theorem pow_mono {x m n : Nat} (h : x < 10 ^ m) (hmn : m ≤ n) : x < 10 ^ n := Nat.lt_of_lt_of_le h (Nat.pow_le_pow_right (by decide) hmn)
theorem body_len (ks : List Int) (h : ks.head? = some 45) : (rdBody ks).length + 1 = ks.length := by
  cases ks with
  | nil => cases h
  | cons c r =>
    simp at h
    subst h
    rfl

/-- what a number that was read bears -/
theorem read_whole {ks : List Int} {T : Int} (h : readD ks = .whole T) : ∃ n : Nat, 1 ≤ n ∧ n ≤ 40 ∧ T.natAbs < 10 ^ n ∧ n + (if T < 0 then 1 else 0) ≤ ks.length := by
  unfold readD at h
  cases hq : (rdBody ks).foldl rdStep (some (0, 0, -1)) with
  | none => rw [hq] at h; cases h
  | some s =>
    obtain ⟨t, n, p⟩ := s
    rw [hq] at h
    obtain ⟨a1, a2, a3, a4, a5, a6, a7⟩ := scan_facts _ t n p hq
    simp only [rdEnd] at h
    split at h
    · cases h
    rename_i hn
    split at h
    · rename_i hp
      have hT : (if decide (ks.head? = some 45) = true then -t else t) = T := by injection h
      have hl := rdBody_len ks
      refine ⟨n.toNat, by omega, by omega, ?_, ?_⟩
      · have : T.natAbs = t.natAbs := by rw [← hT]; split <;> omega
        rw [this]
        exact pow_le_natAbs a6 a7
      · by_cases h45 : ks.head? = some 45
        · have := body_len ks h45
          split <;> omega
        · rw [if_neg (by simpa using h45)] at hT
          split <;> omega
    · cases h
theorem read_real {ks : List Int} {T P : Int} (h : readD ks = .real T P) : ∃ n : Nat, 1 ≤ n ∧ n ≤ 40 ∧ T.natAbs < 10 ^ n ∧ 0 ≤ P ∧ P ≤ n ∧ normI P.toNat T = (T, P) ∧ n + 1 + (if T < 0 then 1 else 0) ≤ ks.length := by
  unfold readD at h
  cases hq : (rdBody ks).foldl rdStep (some (0, 0, -1)) with
  | none => rw [hq] at h; cases h
  | some s =>
    obtain ⟨t, n, p⟩ := s
    rw [hq] at h
    obtain ⟨a1, a2, a3, a4, a5, a6, a7⟩ := scan_facts _ t n p hq
    simp only [rdEnd] at h
    split at h
    · cases h
    rename_i hn
    split at h
    · cases h
    · rename_i hp
      have hl := rdBody_len ks
      generalize hT : (if decide (ks.head? = some 45) = true then -t else t) = T0 at h
      obtain ⟨b1, b2, b3, b4, b5⟩ := normI_facts p.toNat T0
      injection h with h1 h2
      rw [h1, h2] at b4
      rw [h1] at b3 b5
      rw [h2] at b1 b2
      have e : normI p.toNat T0 = (T, P) := by rw [← h1, ← h2]
      refine ⟨n.toNat, by omega, by omega, ?_, b1, by omega, by rw [b4, e], ?_⟩
      · have : T0.natAbs = t.natAbs := by rw [← hT]; split <;> omega
        exact Nat.lt_of_le_of_lt b3 (by rw [this]; exact pow_le_natAbs a6 a7)
      · have a5' := a5 (by omega)
        by_cases h45 : ks.head? = some 45
        · have := body_len ks h45
          split <;> omega
        · rw [if_neg (by simpa using h45)] at hT
          have : ¬ T < 0 := fun h => by have := b5.mp h; omega
          rw [if_neg this]
          omega

/-- the scan of figures -/
theorem scan_digits : ∀ (ds : List Nat), AllDigits ds → ∀ (v : Nat) (n p : Int), (toI ds).foldl rdStep (some ((v : Int), n, p)) = some (((ds.foldl (fun acc c => acc * 10 + (c - 48)) v : Nat) : Int), n + ds.length, if 0 ≤ p then p + ds.length else p)
  | [], _, v, n, p => by simp
  | d :: r, h, v, n, p => by
    have hd := h.head
    have ih := scan_digits r h.tail (v * 10 + (d - 48)) (n + 1) (if 0 ≤ p then p + 1 else p)
    show (toI r).foldl rdStep (rdStep (some ((v : Int), n, p)) (d : Int)) = _
    have e : rdStep (some ((v : Int), n, p)) (d : Int) = some (((v * 10 + (d - 48) : Nat) : Int), n + 1, if 0 ≤ p then p + 1 else p) := by
      simp only [rdStep]
      rw [if_neg (by omega), if_pos (by omega)]
      have : 10 * (v : Int) + (d : Int) - 48 = ((v * 10 + (d - 48) : Nat) : Int) := by push_cast; omega
      rw [this]
    rw [e, ih]
    simp only [List.foldl_cons, List.length_cons]
    have e2 : n + 1 + (r.length : Int) = n + ((r.length + 1 : Nat) : Int) := by push_cast; omega
    have e3 : (if 0 ≤ (if 0 ≤ p then p + 1 else p) then (if 0 ≤ p then p + 1 else p) + (r.length : Int) else (if 0 ≤ p then p + 1 else p)) = if 0 ≤ p then p + ((r.length + 1 : Nat) : Int) else p := by
      by_cases hp : 0 ≤ p
      · rw [if_pos hp, if_pos (by omega), if_pos hp]; push_cast; omega
      · rw [if_neg hp, if_neg hp, if_neg hp]
    rw [e2, e3]
theorem digitsVal_app (a b : List Nat) : b.foldl (fun acc c => acc * 10 + (c - 48)) (digitsVal a) = digitsVal (a ++ b) := by
  unfold digitsVal; rw [List.foldl_append]

theorem body_text {T : Int} {l : List Nat} (h : ∀ c r, l = c :: r → c ≠ 43 ∧ c ≠ 45) : rdBody (toI (sgnL T ++ l)) = toI l ∧ decide ((toI (sgnL T ++ l)).head? = some 45) = decide (T < 0) := by
  unfold sgnL
  by_cases hT : T < 0
  · rw [if_pos hT]
    refine ⟨rfl, ?_⟩
    rw [decide_eq_true hT]
    rfl
  · rw [if_neg hT]
    cases l with
    | nil => exact ⟨rfl, by rw [decide_eq_false hT]; rfl⟩
    | cons c r =>
      obtain ⟨h1, h2⟩ := h c r rfl
      refine ⟨?_, ?_⟩
      · show rdBody ((c : Int) :: toI r) = (c : Int) :: toI r
        exact body0 (by simp; omega) (by simp; omega)
      · rw [decide_eq_false hT]
        simp
        omega

theorem read_point {T : Int} {a b : List Nat} (ha : AllDigits a) (hb : AllDigits b) (hv : digitsVal (a ++ b) = T.natAbs) :
    readD (toI (sgnL T ++ (a ++ 46 :: b))) = if a.length + b.length = 0 ∨ 40 < a.length + b.length then .none else .real (normI b.length T).1 (normI b.length T).2 := by
  obtain ⟨e1, e2⟩ := body_text (T := T) (l := a ++ 46 :: b) (by
    intro c r hc
    cases a with
    | nil => simp at hc; omega
    | cons d s =>
      have := ha.head
      simp at hc
      omega)
  unfold readD
  rw [e1, e2]
  have f : (toI (a ++ 46 :: b)).foldl rdStep (some (0, 0, -1)) = some ((T.natAbs : Int), (a.length : Int) + b.length, (b.length : Int)) := by
    have h1 : toI (a ++ 46 :: b) = toI a ++ 46 :: toI b := by simp [toI]
    rw [h1, List.foldl_append]
    have := scan_digits a ha 0 0 (-1)
    rw [show ((0 : Nat) : Int) = 0 from rfl] at this
    rw [this, List.foldl_cons]
    have h2 : rdStep (some (((a.foldl (fun acc c => acc * 10 + (c - 48)) 0 : Nat) : Int), 0 + (a.length : Int), if (0 : Int) ≤ -1 then -1 + (a.length : Int) else -1)) 46 = some (((digitsVal a : Nat) : Int), (a.length : Int), 0) := by
      rw [if_neg (by decide)]
      simp only [rdStep]
      rw [if_pos (by decide)]
      rw [Int.zero_add]
      rfl
    rw [h2, scan_digits b hb, digitsVal_app, hv]
    simp
  rw [f]
  simp only [rdEnd]
  have hs : (if decide (T < 0) = true then -(T.natAbs : Int) else (T.natAbs : Int)) = T := by
    by_cases h : T < 0
    · rw [if_pos (decide_eq_true h)]; omega
    · rw [if_neg (by simpa using h)]; omega
  rw [hs]
  by_cases hz : a.length + b.length = 0 ∨ 40 < a.length + b.length
  · rw [if_pos hz, if_pos (by omega)]
  · have hz' : ¬ ((a.length : Int) + b.length = 0 ∨ 40 < (a.length : Int) + b.length) := by omega
    have hp : ¬ ((b.length : Int) < 0) := by omega
    rw [if_neg hz, if_neg hz', if_neg hp, Int.toNat_natCast]
theorem read_plain {T : Int} {a : List Nat} (ha : AllDigits a) (hne : a ≠ []) (hl : a.length ≤ 40) (hv : digitsVal a = T.natAbs) : readD (toI (sgnL T ++ a)) = .whole T := by
  obtain ⟨e1, e2⟩ := body_text (T := T) (l := a) (by
    intro c r hc
    subst hc
    have := ha.head
    omega)
  unfold readD
  rw [e1, e2]
  have := scan_digits a ha 0 0 (-1)
  rw [show ((0 : Nat) : Int) = 0 from rfl, if_neg (by decide)] at this
  rw [this]
  have hpos : 0 < a.length := by cases a with | nil => exact absurd rfl hne | cons _ _ => simp
  simp only [rdEnd]
  have hz' : ¬ ((0 : Int) + a.length = 0 ∨ 40 < (0 : Int) + a.length) := by omega
  rw [if_neg hz', if_pos (by decide)]
  have hs : (if decide (T < 0) = true then -((a.foldl (fun acc c => acc * 10 + (c - 48)) 0 : Nat) : Int) else ((a.foldl (fun acc c => acc * 10 + (c - 48)) 0 : Nat) : Int)) = T := by
    have hv' : a.foldl (fun acc c => acc * 10 + (c - 48)) 0 = T.natAbs := hv
    rw [hv']
    by_cases h : T < 0
    · rw [if_pos (decide_eq_true h)]; omega
    · rw [if_neg (by simpa using h)]; omega
  rw [hs]
end TPlain2
end Mine

namespace Mine
section TPlain3
open PySem.NumText

def plainRd (T P : Int) : Rd := if P = 0 then .whole T else .real T P

theorem val_zeros (k : Nat) (cs : List Nat) : digitsVal (List.replicate k 48 ++ cs) = digitsVal cs := by
  induction k with
  | zero => rfl
  | succ k ih => rw [List.replicate_succ, List.cons_append, digitsVal_zero, ih]
theorem padL_val (n P : Nat) : digitsVal (padL n P) = n := by
  unfold padL; rw [val_zeros, (digs_spec n).2.2.1]
theorem padL_length (n P : Nat) : (padL n P).length = max (P + 1) (digs n).length := by
  unfold padL; rw [List.length_append, List.length_replicate]; omega
theorem head_tail (n P : Nat) : headL n P ++ tailL n P = padL n P := List.take_append_drop _ _
theorem headL_length (n P : Nat) : (headL n P).length = (padL n P).length - P := by
  unfold headL; rw [List.length_take]; omega
theorem tailL_length (n P : Nat) : (tailL n P).length = P := by
  unfold tailL; rw [List.length_drop, padL_length]; omega
theorem headL_digits (n P : Nat) : AllDigits (headL n P) := fun c hc => padL_digits n P c (List.mem_of_mem_take hc)
theorem tailL_digits (n P : Nat) : AllDigits (tailL n P) := fun c hc => padL_digits n P c (List.mem_of_mem_drop hc)

/-- where the number is less than one, nothing but zeros stands ahead of the point -/
theorem tail_val {n P : Nat} (h : n < 10 ^ P) (hP : 0 < P) : digitsVal (tailL n P) = n := by
  have hd := digs_len h hP
  have h1 : (padL n P).length = P + 1 := by rw [padL_length]; omega
  have h2 : padL n P = 48 :: (List.replicate (P - (digs n).length) 48 ++ digs n) := by
    unfold padL
    have : P + 1 - (digs n).length = (P - (digs n).length) + 1 := by omega
    rw [this, List.replicate_succ, List.cons_append]
  have h3 : tailL n P = List.replicate (P - (digs n).length) 48 ++ digs n := by
    unfold tailL
    rw [h1, h2]
    have : P + 1 - P = 1 := by omega
    rw [this]
    rfl
  rw [h3, val_zeros, (digs_spec n).2.2.1]

theorem text_read {T P : Int} (hp0 : 0 ≤ P) (hp1 : P ≤ 40) (ht : T.natAbs < 10 ^ 40) (hn : normI P.toNat T = (T, P)) : readD (toI (textL T P)) = if P < 40 then plainRd T P else .none := by
  have hd := digs_len ht (by decide)
  obtain ⟨s1, s2, s3, _⟩ := digs_spec T.natAbs
  rcases Int.lt_or_le 0 P with h | h
  · rw [textL_eq h, List.append_assoc, read_point (headL_digits _ _) (tailL_digits _ _) (by rw [head_tail, padL_val])]
    rw [headL_length, tailL_length, padL_length]
    have hdp : 0 < (digs T.natAbs).length := by cases hq : digs T.natAbs with | nil => exact absurd hq s2 | cons _ _ => simp
    by_cases h40 : P < 40
    · rw [if_neg (by omega), if_pos h40, hn]
      unfold plainRd
      rw [if_neg (by omega)]
    · rw [if_pos (by omega), if_neg h40]
  · have : P = 0 := by omega
    subst this
    have e : textL T 0 = sgnL T ++ digs T.natAbs := rfl
    rw [e, read_plain s1 s2 hd s3]
    rfl
theorem least_read {T P : Int} (hp0 : 0 ≤ P) (hp1 : P ≤ 40) (ht : T.natAbs < 10 ^ 40) (hn : normI P.toNat T = (T, P)) : readD (toI (leastL T P)) = plainRd T P := by
  unfold leastL
  by_cases h : (10 : Int) ^ P.toNat ≤ (T.natAbs : Int) ∨ T = 0
  · rw [if_pos h, text_read hp0 hp1 ht hn]
    by_cases h40 : P < 40
    · rw [if_pos h40]
    · -- a number of forty places is less than one
      exfalso
      have hP : P = 40 := by omega
      subst hP
      rcases h with h | h
      · have h' : (T.natAbs : Int) < ((10 ^ 40 : Nat) : Int) := by exact_mod_cast ht
        have h'' : ((10 ^ 40 : Nat) : Int) = (10 : Int) ^ (40 : Int).toNat := by decide
        omega
      · subst h
        have : normI (40 : Int).toNat 0 = (0, 0) := by decide
        rw [this] at hn
        exact absurd (congrArg Prod.snd hn) (by decide)
  · rw [if_neg h]
    have hlt : (T.natAbs : Int) < (10 : Int) ^ P.toNat := by omega
    have hlt' : T.natAbs < 10 ^ P.toNat := by
      have : ((10 ^ P.toNat : Nat) : Int) = (10 : Int) ^ P.toNat := by push_cast; rfl
      omega
    have hT : T ≠ 0 := fun e => h (.inr e)
    have hP : 0 < P.toNat := by
      rcases Nat.eq_zero_or_pos P.toNat with e | e
      · rw [e] at hlt'
        simp at hlt'
        omega
      · exact e
    have := read_point (T := T) (a := []) (b := tailL T.natAbs P.toNat) (fun _ h => nomatch h) (tailL_digits _ _) (by rw [List.nil_append]; exact tail_val hlt' hP)
    rw [List.nil_append] at this
    rw [this, tailL_length, List.length_nil, if_neg (by omega), hn]
    unfold plainRd
    rw [if_neg (by omega)]

theorem sgnL_length (T : Int) : (sgnL T).length = if T < 0 then 1 else 0 := by unfold sgnL; split <;> rfl
theorem least_le_text (T P : Int) (hp0 : 0 ≤ P) : (leastL T P).length ≤ (textL T P).length := by
  unfold leastL
  split
  · exact Nat.le_refl _
  · rename_i h
    rcases Int.lt_or_le 0 P with hp | hp
    · rw [textL_eq hp]
      simp only [List.length_append, List.length_cons]
      omega
    · exfalso
      have : P = 0 := by omega
      subst this
      exact h (by
        by_cases hT : T = 0
        · exact .inr hT
        · refine .inl ?_
          show (1 : Int) ≤ _
          omega)
theorem norm_zero : ∀ n : Nat, normI n 0 = (0, 0)
  | 0 => rfl
  | n + 1 => by
    show (if (0 : Int).fmod 10 = 0 then normI n ((0 : Int).fdiv 10) else _) = _
    rw [if_pos (by decide)]
    exact norm_zero n
theorem zero_places {T P : Int} (hn : normI P.toNat T = (T, P)) (h : T = 0) : P = 0 := by
  subst h
  rw [norm_zero] at hn
  exact (congrArg Prod.snd hn).symm
/-- the length of the least text -/
theorem least_len {T P : Int} {n : Nat} (hz : T = 0 → P = 0) (hp0 : 0 ≤ P) (hn1 : 1 ≤ n) (hT : T.natAbs < 10 ^ n) (hP : P ≤ n) : (leastL T P).length ≤ n + (if P = 0 then 0 else 1) + (if T < 0 then 1 else 0) := by
  have hd := digs_len hT hn1
  rcases Int.lt_or_le 0 P with h | h
  · rw [if_neg (by omega)]
    unfold leastL
    split
    · rename_i hc
      rw [textL_eq h]
      simp only [List.length_append, List.length_cons, sgnL_length, headL_length, tailL_length, padL_length]
      rcases hc with hc | hc
      · have hlow : P.toNat + 1 ≤ (digs T.natAbs).length := by
          rcases Nat.lt_or_ge P.toNat (digs T.natAbs).length with q | q
          · exact q
          · exfalso
            have hlt : T.natAbs < 10 ^ P.toNat := by
              have := (Nat.length_toDigits_le_iff (b := 10) (n := T.natAbs) (k := P.toNat) (by decide) (by omega)).mp (by
                have : (digs T.natAbs).length = (Nat.toDigits 10 T.natAbs).length := by unfold digs; rw [List.length_map]
                omega)
              exact this
            have : ((10 ^ P.toNat : Nat) : Int) = (10 : Int) ^ P.toNat := by push_cast; rfl
            omega
        omega
      · have := hz hc
        omega
    · simp only [List.length_append, List.length_cons, sgnL_length, tailL_length]
      omega
  · have : P = 0 := by omega
    subst this
    rw [if_pos rfl]
    have hl := least_le_text T 0 (by decide)
    have e : textL T 0 = sgnL T ++ digs T.natAbs := rfl
    rw [e, List.length_append, sgnL_length] at hl
    omega
theorem text_codes (T P : Int) : ∀ c ∈ textL T P, c < 256 := by
  intro c hc
  unfold textL at hc
  rcases List.mem_append.mp hc with h | h
  · unfold sgnL at h
    split at h
    · simp at h; omega
    · cases h
  · unfold bodyL at h
    split at h
    · rcases List.mem_append.mp h with h | h
      · rcases List.mem_append.mp h with h | h
        · have := padL_digits T.natAbs P.toNat c (List.mem_of_mem_take h); omega
        · simp at h; omega
      · have := padL_digits T.natAbs P.toNat c (List.mem_of_mem_drop h); omega
    · have := (digs_spec T.natAbs).1 c h; omega
theorem least_codes (T P : Int) : ∀ c ∈ leastL T P, c < 256 := by
  intro c hc
  unfold leastL at hc
  split at hc
  · exact text_codes T P c hc
  · rcases List.mem_append.mp hc with h | h
    · exact text_codes T P c (List.mem_append_left _ h)
    · rcases List.mem_cons.mp h with rfl | h
      · decide
      · have := tailL_digits T.natAbs P.toNat c h; omega
end TPlain3
end Mine

namespace Mine
section TLaw1

section
variable {w : World} {news : List (Addr × Obj)}
   {p : Program} {loose : List Str} {mean : ExcName → Option Value} {mg mb : Str → Option Value} {dp un : Nat} {gd : Option (List Code)} {cn : Str} {cs : Scope} {a : Addr} {ccd : Value} {cl : List (Str × Addr)} {outer : List Env} {A₀ : Around} {base h₀ : Heap} {L : Addr} {m : Str → Option Value} {s : Shared} {Q E : Value → Shared → Prop}

theorem use_codes {pen cells : Addr} {spot great : Int} {t1 t2 : Tok} {n1 n2 : Nat} {vs : List Value} {ns : List Int} {pre post : List (Addr × Obj)}
   (B : Below A₀ base outer h₀) (F : Fr h₀ L s.heap m) (X : (hd.heap_39 w.params).In h₀) (N : News h₀ L s.heap news) (T : Top p loose mean mg mb h₀) (hk : cs.kind = .function)
   (hat : At (pen, W.listOf #[.ref cells, .int spot t1, .int great t2] n1) news pre post) (hc : (cells, W.listOf vs.toArray n2) ∈ post) (h1 : ∀ q ∈ pre, q.1 ≠ pen) (h2 : ∀ q ∈ post, q.1 ≠ pen)
   (hv : IntsAre vs ns) (hs0 : 0 ≤ spot) (hs1 : spot < 800000) (hg0 : 0 ≤ great) (hlen : ns.length < 1000)
   (hd : dp + 3 < recursionLimit) (hu : un + 300 < cLine)
   (h : ∀ l us ks n spot' great' t1' t2' n1' h' tk', IntsAre us ks → ks.length ≤ 900 → (∀ c ∈ ks, 0 ≤ c ∧ c ≤ 255) → spot ≤ spot' → spot' ≤ spot + 10000 → 0 ≤ great' → l ≠ pen → Fr h₀ L h' m →
      News h₀ L h' ((l, W.listOf us.toArray n) :: (pre ++ (pen, W.listOf #[.ref cells, .int spot' t1', .int great' t2'] n1') :: post)) → Q (.ref l) { s with heap := h', toks := tk' }) :
   wpAny (model PySem.Challenge.rw_nn0197_01.row.prog w) (ktrTop dp un gd cn cs L a ccd cl outer) (call (.ref 157) [.ref pen]) Q E s := by
  have C := c_codes w pen cells spot great t1 t2 n1 n2 vs ns (pre ++ post) hv hs0 hs1 hg0 hlen (h2 _ hc) (fun q hq => (List.mem_append.mp hq).elim (h1 q) (h2 q))
  unfold Tag Cal at C
  rw [hat.eq] at N
  refine C p loose mean mg mb dp un gd cn cs a ccd cl outer A₀ base h₀ L m s Q E B F X ?_ T hk hd hu ?_
  · intro q hq
    refine N q ?_
    rcases List.mem_cons.mp hq with rfl | hq
    · simp
    · rcases List.mem_cons.mp hq with rfl | hq
      · simp [hc]
      · rcases List.mem_append.mp hq with hq | hq <;> simp [hq]
  · rintro r news' h' tk' F' N' ⟨l, us, ks, n, spot', great', t1', t2', n1', rfl, h3, h4, h5, h6, h7, h8, h9, rfl⟩
    refine h l us ks n spot' great' t1' t2' n1' h' tk' h3 h4 h5 h6 h7 h8 h9 F' ?_
    intro q hq
    refine N' q ?_
    rcases List.mem_cons.mp hq with rfl | hq
    · simp
    · rcases List.mem_append.mp hq with hq | hq
      · simp [hq]
      · rcases List.mem_cons.mp hq with rfl | hq
        · simp
        · simp [hq]

/-- what is known of a number T with P places that was told by ks -/
structure NumOk (ks : List Int) (T P : Int) : Prop where
  big : T.natAbs < 10 ^ 40
  pos : 0 ≤ P
  top : P ≤ 40
  norm : normI P.toNat T = (T, P)
  least : (leastL T P).length ≤ ks.length
  text : (leastL T P).length ≤ (textL T P).length

theorem numOk_whole {ks : List Int} {T : Int} (h : readD ks = .whole T) : NumOk ks T 0 := by
  obtain ⟨n, h1, h2, h3, h4⟩ := read_whole h
  refine ⟨pow_mono h3 h2, by decide, by decide, rfl, ?_, least_le_text T 0 (by decide)⟩
  have := least_len (T := T) (P := 0) (fun _ => rfl) (by decide) h1 h3 (by omega)
  rw [if_pos rfl] at this
  omega
theorem numOk_real {ks : List Int} {T P : Int} (h : readD ks = .real T P) : NumOk ks T P := by
  obtain ⟨n, h1, h2, h3, h4, h5, h6, h7⟩ := read_real h
  refine ⟨pow_mono h3 h2, h4, by omega, h6, ?_, least_le_text T P h4⟩
  have := least_len (zero_places h6) h4 h1 h3 h5
  have e : (if P = 0 then 0 else 1) ≤ 1 := by split <;> omega
  omega

theorem use_heard {b : Array UInt8} {ks : List Int} {tb : Tok}
   (B : Below A₀ base outer h₀) (F : Fr h₀ L s.heap m) (X : (hd.heap_39 w.params).In h₀) (N : News h₀ L s.heap news) (Tp : Top p loose mean mg mb h₀) (hk : cs.kind = .function)
   (hb : KBw.bInts b = ks) (hlen : ks.length ≤ 1000) (hd : dp + 7 < recursionLimit) (hu : un + 600 < cLine)
   (h : ∀ r news' h' tk', RetTup news (readD ks) r news' → Fr h₀ L h' m → News h₀ L h' news' → Q r { s with heap := h', toks := tk' }) :
   wpAny (model PySem.Challenge.rw_nn0197_01.row.prog w) (ktrTop dp un gd cn cs L a ccd cl outer) (call (.ref 169) [.bytes b tb]) Q E s := by
  have C := c_heard w b ks tb hb hlen news
  unfold Tag Cal at C
  exact C p loose mean mg mb dp un gd cn cs a ccd cl outer A₀ base h₀ L m s Q E B F X N Tp hk hd hu fun r news' h' tk' F' N' R => h r news' h' tk' R F' N'
theorem use_oct {v : Str} {tv : Tok} {l : List Nat}
   (B : Below A₀ base outer h₀) (F : Fr h₀ L s.heap m) (X : (hd.heap_39 w.params).In h₀) (N : News h₀ L s.heap news) (Tp : Top p loose mean mg mb h₀) (hk : cs.kind = .function)
   (hv : v.cps.toList = l) (hlen : l.length ≤ 1000) (hin : ∀ c ∈ l, c < 256) (hd : dp + 5 < recursionLimit) (hu : un + 500 < cLine)
   (h : ∀ b t h' tk', KBw.bInts b = toI l → Fr h₀ L h' m → News h₀ L h' news → Q (.bytes b t) { s with heap := h', toks := tk' }) :
   wpAny (model PySem.Challenge.rw_nn0197_01.row.prog w) (ktrTop dp un gd cn cs L a ccd cl outer) (call (.ref 174) [.str v tv]) Q E s := by
  have C := c_oct w v tv l hv hlen hin news
  unfold Tag Cal at C
  refine C p loose mean mg mb dp un gd cn cs a ccd cl outer A₀ base h₀ L m s Q E B F X N Tp hk hd hu ?_
  rintro r news' h' tk' F' N' ⟨⟨b, t, rfl, hb⟩, rfl⟩
  exact h b t h' tk' hb F' N'
theorem use_least {T P : Int} {x dx : Addr} {k1 k2 t1 t2 : Tok}
   (B : Below A₀ base outer h₀) (F : Fr h₀ L s.heap m) (X : (hd.heap_39 w.params).In h₀) (N : News h₀ L s.heap news) (Tp : Top p loose mean mg mb h₀) (hk : cs.kind = .function)
   (m1 : (x, instObj 115 dx) ∈ news) (m2 : (dx, decD w T P k1 k2 t1 t2) ∈ news) (hp0 : 0 ≤ P) (hp1 : P ≤ 40) (ht : T.natAbs < 10 ^ 40)
   (hd : dp + 3 < recursionLimit) (hu : un + 300 < cLine)
   (h : ∀ v u h' tk', Fr h₀ L h' m → News h₀ L h' news → v.cps.toList = leastL T P → Q (.str v u) { s with heap := h', toks := tk' }) :
   wpAny (model PySem.Challenge.rw_nn0197_01.row.prog w) (ktrTop dp un gd cn cs L a ccd cl outer) (call (.ref 112) [.ref x]) Q E s := by
  have C := c_least w T P x dx k1 k2 t1 t2 news hp0 hp1 ht
  unfold Tag Cal at C
  refine C p loose mean mg mb dp un gd cn cs a ccd cl outer A₀ base h₀ L m s Q E B F X ?_ Tp hk hd hu ?_
  · intro q hq
    rcases List.mem_cons.mp hq with rfl | hq
    · exact N _ m1
    rcases List.mem_cons.mp hq with rfl | hq
    · exact N _ m2
    · exact N _ hq
  · rintro r news' h' tk' F' N' ⟨⟨v, u, rfl, hv⟩, rfl⟩
    exact h v u h' tk' F' (cb_drop N' fun q hq => List.mem_cons_of_mem _ (List.mem_cons_of_mem _ hq)) hv
theorem use_decN {top places T P : Int} {tt tp : Tok}
   (B : Below A₀ base outer h₀) (F : Fr h₀ L s.heap m) (X : (hd.heap_39 w.params).In h₀) (N : News h₀ L s.heap news) (Tp : Top p loose mean mg mb h₀) (hk : cs.kind = .function)
   (hn : normI places.toNat top = (T, P)) (hp0 : 0 ≤ places) (hp1 : places < 1000) (hd : dp + 2 < recursionLimit) (hu : un + 200 < cLine)
   (h : ∀ x dx k1 k2 t1 t2 h' tk', dx < x → (∀ p ∈ news, p.1 < dx) → Fr h₀ L h' m → News h₀ L h' ((x, instObj 115 dx) :: (dx, decD w T P k1 k2 t1 t2) :: news) → Q (.ref x) { s with heap := h', toks := tk' }) :
   wpAny (model PySem.Challenge.rw_nn0197_01.row.prog w) (ktrTop dp un gd cn cs L a ccd cl outer) (call (.ref 115) [.int top tt, .int places tp]) Q E s := by
  refine use_dec B F X N Tp hk hp0 hp1 hd hu ?_
  rw [hn]
  exact h
end

section
variable {prog : Program} {w : World} {A : Around} {E : Value → Shared → Prop} {s : Shared} {h₀ : Heap} {news : List (Addr × Obj)}
/-- the names between the turns -/
abbrev mapT (u m₀ : Str → Option Value) : Str → Option Value := fun z => if z = Str.ofString "codes" then u z else if z = Str.ofString "octets" then u z else if z = Str.ofString "due" then u z else if z = Str.ofString "number" then u z else if z = Str.ofString "plain" then u z else if z = Str.ofString "turn" then u z else m₀ z
theorem mapT_of {m' m₀ : Str → Option Value} (h : ∀ z, z ≠ Str.ofString "codes" → z ≠ Str.ofString "octets" → z ≠ Str.ofString "due" → z ≠ Str.ofString "number" → z ≠ Str.ofString "plain" → z ≠ Str.ofString "turn" → m' z = m₀ z) : m' = mapT m' m₀ := by
  funext z
  unfold mapT
  by_cases a : z = Str.ofString "codes"
  · rw [if_pos a]
  rw [if_neg a]
  by_cases b : z = Str.ofString "octets"
  · rw [if_pos b]
  rw [if_neg b]
  by_cases c : z = Str.ofString "due"
  · rw [if_pos c]
  rw [if_neg c]
  by_cases d : z = Str.ofString "number"
  · rw [if_pos d]
  rw [if_neg d]
  by_cases e : z = Str.ofString "plain"
  · rw [if_pos e]
  rw [if_neg e]
  by_cases f : z = Str.ofString "turn"
  · rw [if_pos f]
  rw [if_neg f, h z a b c d e f]

def JT (pen cells : Addr) (vs : List Value) (n2 : Nat) (m₀ : Str → Option Value) (i : Nat) (m₁ : Str → Option Value) (nw : List (Addr × Obj)) : Prop :=
  ∃ (u : Str → Option Value) (spot great : Int) (t1 t2 : Tok) (n1 : Nat), m₁ = mapT u m₀ ∧ 0 ≤ spot ∧ spot ≤ 10000 * (i : Int) ∧ 0 ≤ great ∧ nw = [(pen, W.listOf #[.ref cells, .int spot t1, .int great t2] n1), (cells, W.listOf vs.toArray n2)]

theorem law_loop {env : Env} {x : Str} {body : List Stmt} {Q : Flow → Shared → Prop} {r pen cells : Addr} {t₀ u₀ v₀ t1' t2' : Tok} {m₀ : Str → Option Value} {vs : List Value} {n2 n1' : Nat}
    (hh : A.handled = none) (hr : IsRange s.heap r 0 4 1 t₀ u₀ v₀) (F : Fr h₀ env.locals s.heap m₀) (N : News h₀ env.locals s.heap news)
    (h2 : (pen, W.listOf #[.ref cells, .int 0 t1', .int 0 t2'] n1') ∈ news) (h3 : (cells, W.listOf vs.toArray n2) ∈ news)
    (step : ∀ (i : Nat) (u : Str → Option Value) (spot great : Int) (t1 t2 : Tok) (n1 : Nat) (I : Addr) it t h tk, (i : Int) < 4 → 0 ≤ spot → spot ≤ 10000 * (i : Int) → 0 ≤ great → pen ≠ I → cells ≠ I →
      Fr h₀ env.locals h (fun z => if z = x then some (.int (0 + (i : Int)) t) else if z = Str.ofString "codes" then u z else if z = Str.ofString "octets" then u z else if z = Str.ofString "due" then u z else if z = Str.ofString "number" then u z else if z = Str.ofString "plain" then u z else if z = Str.ofString "turn" then u z else m₀ z) →
      News h₀ env.locals h [(I, it), (pen, W.listOf #[.ref cells, .int spot t1, .int great t2] n1), (cells, W.listOf vs.toArray n2)] →
      wpAny (model prog w) A (execs body env) (UnrPost h₀ env.locals { s with heap := h, toks := tk } I it (JT pen cells vs n2 m₀ (i + 1)) Q) E { s with heap := h, toks := tk })
    (fin : ∀ (u : Str → Option Value) (spot great : Int) (t1 t2 : Tok) (n1 : Nat) h tk, 
      Fr h₀ env.locals h (fun z => if z = Str.ofString "codes" then u z else if z = Str.ofString "octets" then u z else if z = Str.ofString "due" then u z else if z = Str.ofString "number" then u z else if z = Str.ofString "plain" then u z else if z = Str.ofString "turn" then u z else m₀ z) →
      News h₀ env.locals h [(pen, W.listOf #[.ref cells, .int spot t1, .int great t2] n1), (cells, W.listOf vs.toArray n2)] → Q .next { s with heap := h, toks := tk }) :
    wpAny (model prog w) A (pyIter (.ref r)) (fun it s₂ => LoopAtV prog w A h₀ env x body Q E it s₂) E s := by
  have N0 : News h₀ env.locals s.heap [(pen, W.listOf #[.ref cells, .int 0 t1', .int 0 t2'] n1'), (cells, W.listOf vs.toArray n2)] := by
    intro p hp
    rcases List.mem_cons.mp hp with rfl | hp
    · exact N _ h2
    · rw [List.mem_singleton.mp hp]; exact N _ h3
  refine range_inv (JT pen cells vs n2 m₀) hh hr (by decide) (by decide) F N0 ⟨m₀, 0, 0, t1', t2', n1', mapT_of (fun _ _ _ _ _ _ _ => rfl), by decide, by decide, by decide, rfl⟩ ?_ ?_
  · rintro i m₁ nw I it t h tk hib ⟨u, spot, great, t1, t2, n1, rfl, e1, e2, e3, rfl⟩ off F' N'
    exact step i u spot great t1 t2 n1 I it t h tk (by omega) e1 e2 e3 (off _ (.head _)) (off _ (.tail _ (.head _))) F' N'
  · rintro m₁ nw h tk ⟨u, spot, great, t1, t2, n1, rfl, e1, e2, e3, rfl⟩ F' N'
    exact fin u spot great t1 t2 n1 h tk F' N'
end
end TLaw1
end Mine

namespace Mine
section TTup1

/-- an object that tells d -/
def TupOf (d : Rd) (o : Obj) : Prop := match d with
  | .none => ∃ (t1 : Tok) (n : Nat), o = tupO [.str (Str.ofString "none") t1] n
  | .whole x => ∃ (t1 t2 : Tok) (n : Nat), o = tupO [.str (Str.ofString "whole") t1, .int x t2] n
  | .real x p => ∃ (t1 t2 t3 : Tok) (n : Nat), o = tupO [.str (Str.ofString "real") t1, .int x t2, .int p t3] n
theorem RetTup.obj {rest : List (Addr × Obj)} {d : Rd} {r : Value} {news' : List (Addr × Obj)} (h : RetTup rest d r news') : ∃ T o, r = .ref T ∧ TupOf d o ∧ news' = (T, o) :: rest := by
  cases d with
  | none => obtain ⟨T, t1, n, rfl, rfl⟩ := h; exact ⟨T, _, rfl, ⟨t1, n, rfl⟩, rfl⟩
  | whole x => obtain ⟨T, t1, t2, n, rfl, rfl⟩ := h; exact ⟨T, _, rfl, ⟨t1, t2, n, rfl⟩, rfl⟩
  | real x p => obtain ⟨T, t1, t2, t3, n, rfl, rfl⟩ := h; exact ⟨T, _, rfl, ⟨t1, t2, t3, n, rfl⟩, rfl⟩
def datOf : Rd → PyData
  | .none => .tuple [.str (Str.ofString "none")]
  | .whole x => .tuple [.str (Str.ofString "whole"), .int x]
  | .real x p => .tuple [.str (Str.ofString "real"), .int x, .int p]
theorem TupOf.reads {h : Heap} {T : Addr} {d : Rd} {o : Obj} (ho : h.get? T = some o) (ht : TupOf d o) : Reads h (.ref T) (datOf d) [] := by
  cases d with
  | none => obtain ⟨t1, n, rfl⟩ := ht; exact .tuple ho rfl rfl (.cons (.str _ _) .nil)
  | whole x => obtain ⟨t1, t2, n, rfl⟩ := ht; exact .tuple ho rfl rfl (.cons (.str _ _) (.cons (.int _ _) .nil))
  | real x p => obtain ⟨t1, t2, t3, n, rfl⟩ := ht; exact .tuple ho rfl rfl (.cons (.str _ _) (.cons (.int _ _) (.cons (.int _ _) .nil)))
theorem dat_shaped (d : Rd) : SeqAt.shaped (datOf d) = true := by cases d <;> (simp [datOf, SeqAt.shaped, PyData.canLay0, PyData.canLayAll0, PyData.depth, PyData.depthAll]; decide +kernel)
theorem dat_noMix (d : Rd) : SeqAt.noMix (datOf d) (datOf d) = true := by cases d <;> simp [datOf, SeqAt.noMix, SeqAt.noMixAll]
theorem dat_same (d : Rd) : PySem.Spec.same (datOf d) (datOf d) = true := by cases d <;> simp [datOf, PySem.Spec.same, PySem.Spec.sameAll]
section
variable {prog : Program} {w : World} {A : Around} {E : Value → Shared → Prop} {s : Shared} {h₀ : Heap} {L : Addr} {news : List (Addr × Obj)} {X Y : Addr} {d d' : Rd} {o o' : Obj} {Q : Value → Shared → Prop}
theorem ne_tups (N : News h₀ L s.heap news) (m1 : (X, o) ∈ news) (m2 : (Y, o') ∈ news) (t1 : TupOf d o) (t2 : TupOf d' o') (e : d = d') (hu : A.units + 64 < cLine) (h : Q (.bool false) s) : wpAny (model prog w) A (compareOp .NotEq (.ref X) (.ref Y)) Q E s := by
  subst e
  exact ne_dataH_same (t1.reads (N _ m1).1) (t2.reads (N _ m2).1) (dat_shaped d) (dat_shaped d) hu (dat_noMix d) (by rw [dat_same]; exact h)
theorem eq_tups (N : News h₀ L s.heap news) (m1 : (X, o) ∈ news) (m2 : (Y, o') ∈ news) (t1 : TupOf d o) (t2 : TupOf d' o') (e : d = d') (hu : A.units + 64 < cLine) (h : Q (.bool true) s) : wpAny (model prog w) A (compareOp .Eq (.ref X) (.ref Y)) Q E s := by
  subst e
  exact eq_dataH_same (t1.reads (N _ m1).1) (t2.reads (N _ m2).1) (dat_shaped d) (dat_shaped d) hu (dat_noMix d) (by rw [dat_same]; exact h)
end

section
variable {M : Model} {A : Around} {E : Value → Shared → Prop} {s : Shared} {st st2 : Stmt} {tl : List Stmt} {env : Env} {Q : Flow → Shared → Prop} {h₀ : Heap} {L : Addr} {m : Str → Option Value} {news : List (Addr × Obj)}
/-- nothing but what is dropped was made -/
def Same (h₀ : Heap) (L : Addr) (m : Str → Option Value) (news : List (Addr × Obj)) (s s' : Shared) : Prop := ∃ h' tk', s' = { s with heap := h', toks := tk' } ∧ Fr h₀ L h' m ∧ News h₀ L h' news
theorem Same.intro {all : List (Addr × Obj)} {h' : Heap} {tk' : Nat} (F : Fr h₀ L h' m) (N : News h₀ L h' all) (sub : ∀ p ∈ news, p ∈ all) : Same h₀ L m news s { s with heap := h', toks := tk' } := ⟨h', tk', rfl, F, fun p hp => N p (sub p hp)⟩
theorem cut_stm (Mid : Shared → Prop) (h1 : wpAny M A (exec st env) (fun f s' => f = .next ∧ Mid s') E s) (h2 : ∀ s', Mid s' → wpAny M A (execs tl env) Q E s') : wpAny M A (execs (st :: tl) env) Q E s := by
  refine wpAny_execs_cons (wpAny_mono h1 (fun f s' h => ?_) fun _ _ e => e)
  obtain ⟨rfl, hm⟩ := h
  exact h2 s' hm
theorem cut_same (_F : Fr h₀ L s.heap m) (_N : News h₀ L s.heap news) (h1 : wpAny M A (exec st env) (fun f s' => f = .next ∧ Same h₀ L m news s s') E s)
    (h2 : ∀ h' tk', Fr h₀ L h' m → News h₀ L h' news → wpAny M A (execs tl env) Q E { s with heap := h', toks := tk' }) : wpAny M A (execs (st :: tl) env) Q E s :=
  cut_stm _ h1 fun s' ⟨h', tk', e, F', N'⟩ => e ▸ h2 h' tk' F' N'

/-- behind "number = .." : a number of the read kind -/
def MidN (w : World) (ks : List Int) (h₀ : Heap) (L : Addr) (m : Str → Option Value) (news : List (Addr × Obj)) (s s' : Shared) : Prop :=
  ∃ (T P : Int) (x dx : Addr) (k1 k2 t1 t2 : Tok) (h' : Heap) (tk' : Nat), s' = { s with heap := h', toks := tk' } ∧ NumOk ks T P ∧ Fr h₀ L h' (fun z => if z = Str.ofString "number" then some (.ref x) else m z) ∧ News h₀ L h' ((x, instObj 115 dx) :: (dx, decD w T P k1 k2 t1 t2) :: news)
theorem MidN.intro {w : World} {ks : List Int} {all : List (Addr × Obj)} {T P : Int} {x dx : Addr} {k1 k2 t1 t2 : Tok} {h' : Heap} {tk' : Nat} (ok : NumOk ks T P) (F : Fr h₀ L h' (fun z => if z = Str.ofString "number" then some (.ref x) else m z)) (N : News h₀ L h' all)
    (sub : ∀ p ∈ (x, instObj 115 dx) :: (dx, decD w T P k1 k2 t1 t2) :: news, p ∈ all) : MidN w ks h₀ L m news s { s with heap := h', toks := tk' } := ⟨T, P, x, dx, k1, k2, t1, t2, h', tk', rfl, ok, F, fun p hp => N p (sub p hp)⟩
/-- two statements: the first may go to the loop's next turn -/
theorem cut_num {prog : Program} {w : World} {ks : List Int} {o : Obj} (_ht : TupOf (readD ks) o) (_F : Fr h₀ L s.heap m) (_N : News h₀ L s.heap news)
    (h1 : wpAny (model prog w) A (exec st env) (fun f s' => match f with | .next => wpAny (model prog w) A (exec st2 env) (fun f s'' => f = .next ∧ MidN w ks h₀ L m news s s'') E s' | f => Q f s') E s)
    (h2 : ∀ s', MidN w ks h₀ L m news s s' → wpAny (model prog w) A (execs tl env) Q E s') : wpAny (model prog w) A (execs (st :: st2 :: tl) env) Q E s := by
  refine wpAny_execs_cons (wpAny_mono h1 (fun f s' h => ?_) fun _ _ e => e)
  cases f with
  | next =>
    refine wpAny_execs_cons (wpAny_mono h (fun f s'' h => ?_) fun _ _ e => e)
    obtain ⟨rfl, hm⟩ := h
    exact h2 s'' hm
  | _ => exact h
/-- behind "plain = .." -/
def MidP (d : Rd) (h₀ : Heap) (L : Addr) (m : Str → Option Value) (news : List (Addr × Obj)) (s s' : Shared) : Prop :=
  ∃ (X : Addr) (o : Obj) (h' : Heap) (tk' : Nat), s' = { s with heap := h', toks := tk' } ∧ TupOf d o ∧ Fr h₀ L h' (fun z => if z = Str.ofString "plain" then some (.ref X) else m z) ∧ News h₀ L h' ((X, o) :: news)
theorem MidP.intro {d : Rd} {all : List (Addr × Obj)} {X : Addr} {o : Obj} {h' : Heap} {tk' : Nat} (F : Fr h₀ L h' (fun z => if z = Str.ofString "plain" then some (.ref X) else m z)) (N : News h₀ L h' all) (hm : (X, o) ∈ all) (sub : ∀ p ∈ news, p ∈ all) (ht : TupOf d o) : MidP d h₀ L m news s { s with heap := h', toks := tk' } :=
  ⟨X, o, h', tk', rfl, ht, F, fun p hp => N p ((List.mem_cons.mp hp).elim (fun e => e ▸ hm) (sub p))⟩
theorem cut_plain {d : Rd} (_F : Fr h₀ L s.heap m) (_N : News h₀ L s.heap news) (h1 : wpAny M A (exec st env) (fun f s' => f = .next ∧ MidP d h₀ L m news s s') E s)
    (h2 : ∀ s', MidP d h₀ L m news s s' → wpAny M A (execs tl env) Q E s') : wpAny M A (execs (st :: tl) env) Q E s := cut_stm _ h1 h2
end

section
variable {w : World} {news : List (Addr × Obj)}
   {p : Program} {loose : List Str} {mean : ExcName → Option Value} {mg mb : Str → Option Value} {dp un : Nat} {gd : Option (List Code)} {cn : Str} {cs : Scope} {a : Addr} {ccd : Value} {cl : List (Str × Addr)} {outer : List Env} {A₀ : Around} {base h₀ : Heap} {L : Addr} {m : Str → Option Value} {s : Shared} {Q E : Value → Shared → Prop}
theorem due_t {l : Addr} {us : List Value} {ks : List Int} {c : Nat}
   (B : Below A₀ base outer h₀) (F : Fr h₀ L s.heap m) (X : (hd.heap_39 w.params).In h₀) (N : News h₀ L s.heap news) (Tp : Top p loose mean mg mb h₀) (hk : cs.kind = .function)
   (hm : (l, W.listOf us.toArray c) ∈ news) (hi : IntsAre us ks) (hlen : ks.length ≤ 1000)
   (hd : dp + 5 < recursionLimit) (hu : un + 500 < cLine)
   (h : ∀ T o h' tk', TupOf (readD ks) o → Fr h₀ L h' m → News h₀ L h' ((T, o) :: news) → Q (.ref T) { s with heap := h', toks := tk' }) :
   wpAny (model PySem.Challenge.rw_nn0197_01.row.prog w) (ktrTop dp un gd cn cs L a ccd cl outer) (call (.ref 162) [.ref l]) Q E s := by
  have C := c_due w l us ks c hi hlen news
  unfold Tag Cal at C
  refine C p loose mean mg mb dp un gd cn cs a ccd cl outer A₀ base h₀ L m s Q E B F X (fun q hq => (List.mem_cons.mp hq).elim (fun e => N q (e ▸ hm)) (N q)) Tp hk hd hu ?_
  intro r news' h' tk' F' N' R
  rw [due_read] at R
  obtain ⟨T, o, rfl, ht, rfl⟩ := RetTup.obj R
  exact h T o h' tk' ht F' (cb_drop N' fun q hq => by rcases List.mem_cons.mp hq with rfl | hq <;> simp [*])
theorem heard_t {b : Array UInt8} {ks : List Int} {tb : Tok}
   (B : Below A₀ base outer h₀) (F : Fr h₀ L s.heap m) (X : (hd.heap_39 w.params).In h₀) (N : News h₀ L s.heap news) (Tp : Top p loose mean mg mb h₀) (hk : cs.kind = .function)
   (hb : KBw.bInts b = ks) (hlen : ks.length ≤ 1000) (hd : dp + 7 < recursionLimit) (hu : un + 600 < cLine)
   (h : ∀ T o h' tk', TupOf (readD ks) o → Fr h₀ L h' m → News h₀ L h' ((T, o) :: news) → Q (.ref T) { s with heap := h', toks := tk' }) :
   wpAny (model PySem.Challenge.rw_nn0197_01.row.prog w) (ktrTop dp un gd cn cs L a ccd cl outer) (call (.ref 169) [.bytes b tb]) Q E s := by
  refine use_heard B F X N Tp hk hb hlen hd hu fun r news' h' tk' R F' N' => ?_
  obtain ⟨T, o, rfl, ht, rfl⟩ := RetTup.obj R
  exact h T o h' tk' ht F' N'
end
theorem tup_none {t : Tok} {n : Nat} : TupOf .none (tupO [.str (Str.ofString "none") t] n) := ⟨t, n, rfl⟩
theorem tup_plain0 {T : Int} {t u : Tok} {n : Nat} : TupOf (plainRd T 0) (tupO [.str (Str.ofString "whole") t, .int T u] n) := ⟨t, u, n, rfl⟩
theorem tup_plain {T P : Int} {t u v : Tok} {n : Nat} (h : P ≠ 0) : TupOf (plainRd T P) (tupO [.str (Str.ofString "real") t, .int T u, .int P v] n) := by
  unfold plainRd; rw [if_neg h]; exact ⟨t, u, v, n, rfl⟩
end TTup1
end Mine

namespace Mine
section TLaw3W

local macro_rules | `(tactic| k_all) => `(tactic| assumption)
local macro_rules | `(tactic| k_all) => `(tactic| (refine' List.forall_mem_cons.mpr ⟨?a, ?b⟩; (case a => first | assumption | exact Ne.symm (by assumption) | k_ne); (case b => k_all)))
local macro_rules | `(tactic| ktr_rel) => `(tactic| first | exact At.head | (refine' At.tail ?a; (case a => ktr_rel)))
local macro_rules | `(tactic| lcg_off) => `(tactic| first | assumption | omega | (simp only [List.length_map, List.length_take]; omega))
local macro_rules | `(tactic| walk_at $s:str) => `(tactic| k_extra $s)
theorem in_of_bd {ks : List Int} (h : ∀ c ∈ ks, 0 ≤ c ∧ c ≤ 255) : KBa.In ks := fun c hc => by
  have := h c hc
  omega
theorem NumOk.short {ks : List Int} {T P : Int} (h : NumOk ks T P) (hl : ks.length ≤ 900) : (leastL T P).length ≤ 1000 := by have := h.least; omega
theorem NumOk.shortT {ks : List Int} {T P : Int} (h : NumOk ks T P) : (textL T P).length ≤ 1000 := textL_len (digs_len h.big (by decide)) h.top
theorem JT.intro {pen cells : Addr} {vs : List Value} {n2 : Nat} {m₀ m' : Str → Option Value} {i : Nat} {spot great : Int} {t1 t2 : Tok} {n1 : Nat} (h : ∀ z, z ≠ Str.ofString "codes" → z ≠ Str.ofString "octets" → z ≠ Str.ofString "due" → z ≠ Str.ofString "number" → z ≠ Str.ofString "plain" → z ≠ Str.ofString "turn" → m' z = m₀ z)
    (h0 : 0 ≤ spot) (h1 : spot ≤ 10000 * (i : Int)) (hg : 0 ≤ great) : JT pen cells vs n2 m₀ i m' [(pen, W.listOf #[.ref cells, .int spot t1, .int great t2] n1), (cells, W.listOf vs.toArray n2)] :=
  ⟨m', spot, great, t1, t2, n1, mapT_of h, h0, h1, hg, rfl⟩
theorem tup_plainE {T P : Int} {t u : Tok} {n : Nat} (h : P = 0) : TupOf (plainRd T P) (tupO [.str (Str.ofString "whole") t, .int T u] n) := by
  subst h; exact tup_plain0
theorem tup_cases {ks : List Int} {o : Obj} (h : TupOf (readD ks) o) : (∃ (t1 : Tok) (n : Nat), o = tupO [.str (Str.ofString "none") t1] n) ∨ (∃ (T : Int) (t1 t2 : Tok) (n : Nat), o = tupO [.str (Str.ofString "whole") t1, .int T t2] n ∧ NumOk ks T 0) ∨
    (∃ (T P : Int) (t1 t2 t3 : Tok) (n : Nat), o = tupO [.str (Str.ofString "real") t1, .int T t2, .int P t3] n ∧ NumOk ks T P) := by
  cases hq : readD ks with
  | none => rw [hq] at h; obtain ⟨t1, n, rfl⟩ := h; exact .inl ⟨t1, n, rfl⟩
  | whole T => rw [hq] at h; obtain ⟨t1, t2, n, rfl⟩ := h; exact .inr (.inl ⟨T, t1, t2, n, rfl, numOk_whole hq⟩)
  | real T P => rw [hq] at h; obtain ⟨t1, t2, t3, n, rfl⟩ := h; exact .inr (.inr ⟨T, P, t1, t2, t3, n, rfl, numOk_real hq⟩)
set_option maxRecDepth 100000 in
set_option maxHeartbeats 4000000 in
theorem law_x : PySem.Challenge.rw_nn0197_01.Holds := hd (by
  w_top off
  k_with_none
  k_with "call ref" => (k_here; (with_reducible show wpAny _ _ (call (Value.ref 157) [Value.ref _]) _ _ _); k_dflt (refine' use_codes ?k1_z ?k2_z ?k3_z ?k4_z ?k5_z ?kK_z ?kA_z ?kC_z ?kp_z ?kq_z ?kv_z ?ks0_z ?ks1_z ?kg_z ?kl_z ?kd_z ?ku_z ?_; (case k1_z => k_asm); (case k2_z => k_asm); (case k3_z => k_asm); (case k4_z => k_asm); (case k5_z => k_asm); (case kK_z => first | exact rfl | assumption); (case kA_z => ktr_rel); (case kC_z => k_mem); (case kp_z => k_all); (case kq_z => k_all); (case kv_z => assumption); (case ks0_z => omega); (case ks1_z => omega); (case kg_z => omega); (case kl_z => lcg_off); (case kd_z => ktr_room); (case ku_z => ktr_units)); intro lD usD ksD nD spD grD t1D t2D n1D hD tkD hDi hDl hDb hD3 hD4 hD5 hDn F' N'; (try simp only [List.cons_append, List.nil_append] at N'))
  k_with "call type:bytes" => (k_here; (with_reducible show wpAny _ _ (call (Value.type "bytes") [Value.ref _]) _ _ _); k_dflt (refine' KBa.make_K ?kbaF_z ?kbaN_z ?kbah_z ?kbal_z ?kbai_z ?kbar_z ?kban_z ?_; (case kbaF_z => k_asm); (case kbaN_z => k_asm); (case kbah_z => rfl); (case kbal_z => is_list); (case kbai_z => assumption); (case kbar_z => exact in_of_bd (by assumption)); (case kban_z => omega)); intro h9 t9 k9 F' N' kbaIn; have hbK := KBa.ints_make kbaIn)
  k_with "call ref" => (k_here; (with_reducible show wpAny _ _ (call (Value.ref 174) [Value.str _ _]) _ _ _); k_dflt (refine' use_oct ?k1_z ?k2_z ?k3_z ?k4_z ?k5_z ?kK_z ?hv_z ?hl_z ?hin_z ?kd_z ?ku_z ?_; (case k1_z => k_asm); (case k2_z => k_asm); (case k3_z => k_asm); (case k4_z => k_asm); (case k5_z => k_asm); (case kK_z => first | exact rfl | assumption); (case hv_z => assumption); (case hl_z => first | assumption | omega | exact NumOk.short (by assumption) (by assumption) | exact NumOk.shortT (by assumption) | (rw [List.length_map]; first | exact NumOk.short (by assumption) (by assumption) | exact NumOk.shortT (by assumption)) | decide); (case hin_z => first | exact least_codes _ _ | exact text_codes _ _); (case kd_z => ktr_room); (case ku_z => ktr_units)); intro b1 t1 h1 tk1 hb1 F' N')
  k_with "call ref" => (k_here; (with_reducible show wpAny _ _ (call (Value.ref 115) [Value.int _ _, Value.int _ _]) _ _ _); k_dflt (refine' use_decN ?k1_z ?k2_z ?k3_z ?k4_z ?k5_z ?kK_z ?hn_z ?p0_z ?p1_z ?kd_z ?ku_z ?_; (case k1_z => k_asm); (case k2_z => k_asm); (case k3_z => k_asm); (case k4_z => k_asm); (case k5_z => k_asm); (case kK_z => first | exact rfl | assumption); (case hn_z => exact NumOk.norm (by assumption)); (case p0_z => first | decide | omega); (case p1_z => first | decide | omega); (case kd_z => ktr_room); (case ku_z => ktr_units)); intro x1 dx1 k1 k2 t1 t2 h1 tk1 l1 l2 F' N')
  k_with "call ref" => (k_here; k_dflt (show wpAny _ _ (call (Value.ref 105) [Value.ref _]) _ _ _); k_dflt (refine' use_text ?k1_z ?k2_z ?k3_z ?k4_z ?k5_z ?kK_z ?m1_z ?m2_z ?p0_z ?p1_z ?pt_z ?kd_z ?ku_z ?_; (case k1_z => k_asm); (case k2_z => k_asm); (case k3_z => k_asm); (case k4_z => k_asm); (case k5_z => k_asm); (case kK_z => first | exact rfl | assumption); (case m1_z => k_mem); (case m2_z => k_mem); (case p0_z => exact NumOk.pos (by assumption)); (case p1_z => exact NumOk.top (by assumption)); (case pt_z => exact NumOk.big (by assumption)); (case kd_z => ktr_room); (case ku_z => ktr_units)); intro v1 u1 h1 tk1 F' N' hv)
  k_with "call ref" => (k_here; k_dflt (show wpAny _ _ (call (Value.ref 112) [Value.ref _]) _ _ _); k_dflt (refine' use_least ?k1_z ?k2_z ?k3_z ?k4_z ?k5_z ?kK_z ?m1_z ?m2_z ?p0_z ?p1_z ?pt_z ?kd_z ?ku_z ?_; (case k1_z => k_asm); (case k2_z => k_asm); (case k3_z => k_asm); (case k4_z => k_asm); (case k5_z => k_asm); (case kK_z => first | exact rfl | assumption); (case m1_z => k_mem); (case m2_z => k_mem); (case p0_z => exact NumOk.pos (by assumption)); (case p1_z => exact NumOk.top (by assumption)); (case pt_z => exact NumOk.big (by assumption)); (case kd_z => ktr_room); (case ku_z => ktr_units)); intro v1 u1 h1 tk1 F' N' hv)
  k_with "call builtin:len" => (k_here; (with_reducible show wpAny _ _ (call (Value.builtin "len") [Value.str _ _]) _ _ _); (refine' len_cs ?k1_z ?k2_z ?_; (case k1_z => assumption); (case k2_z => first | exact Nat.le_trans (NumOk.short (by assumption) (by assumption)) (by decide) | exact Nat.le_trans (NumOk.shortT (by assumption)) (by decide))); intro u tk)
  k_with "callWith ref" => (k_here; (with_reducible show wpAny _ _ (callWith _ _ _ (backTo _ (starEach [] _)) []) _ _ _); k_dflt (refine' callWith_K0 ?k1_z ?k2_z ?_; (case k1_z => exact Frag.In.keeps (by with_reducible assumption) (Fr.keep (by with_reducible assumption))); (case k2_z => k_is); k_whole))
  k_with "call ref" => (k_here; (with_reducible show wpAny _ _ (call (Value.ref 162) [Value.ref _]) _ _ _); k_dflt (refine' due_t ?k1_z ?k2_z ?k3_z ?k4_z ?k5_z ?kK_z ?hm_z ?hi_z ?hl_z ?kd_z ?ku_z ?_; (case k1_z => k_asm); (case k2_z => k_asm); (case k3_z => k_asm); (case k4_z => k_asm); (case k5_z => k_asm); (case kK_z => first | exact rfl | assumption); (case hm_z => k_mem); (case hi_z => assumption); (case hl_z => omega); (case kd_z => ktr_room); (case ku_z => ktr_units)); intro X1 o1 h1 tk1 ht1 F' N')
  k_with "call ref" => (k_here; (with_reducible show wpAny _ _ (call (Value.ref 169) [Value.bytes _ _]) _ _ _); k_dflt (refine' heard_t ?k1_z ?k2_z ?k3_z ?k4_z ?k5_z ?kK_z ?hb_z ?hl_z ?kd_z ?ku_z ?_; (case k1_z => k_asm); (case k2_z => k_asm); (case k3_z => k_asm); (case k4_z => k_asm); (case k5_z => k_asm); (case kK_z => first | exact rfl | assumption); (case hb_z => first | assumption | exact rfl); (case hl_z => first | assumption | omega | (rw [List.length_map]; first | exact NumOk.short (by assumption) (by assumption) | exact NumOk.shortT (by assumption)) | decide); (case kd_z => ktr_room); (case ku_z => ktr_units)); intro X1 o1 h1 tk1 ht1 F' N')
  k_with "call ref" => (k_here; (with_reducible show wpAny _ _ (call (Value.ref 133) [Value.bytes _ _]) _ _ _); k_dflt (refine' use_read ?k1_z ?k2_z ?k3_z ?k4_z ?k5_z ?kK_z ?hb_z ?hl_z ?kd_z ?ku_z ?_ ?_ ?_; (case k1_z => k_asm); (case k2_z => k_asm); (case k3_z => k_asm); (case k4_z => k_asm); (case k5_z => k_asm); (case kK_z => first | exact rfl | assumption); (case hb_z => first | assumption | exact rfl); (case hl_z => first | assumption | omega | (rw [List.length_map]; first | exact NumOk.short (by assumption) (by assumption) | exact NumOk.shortT (by assumption)) | decide); (case kd_z => ktr_room); (case ku_z => ktr_units)); (intro h1 tk1 hR F' N'); rotate_left; (intro t1 tk1 h1 tk2 hR F' N'); rotate_left; (intro T1 P1 z1 d1 k1 k2 t1 t2 h1 tk1 hR l1 l2 F' N'); rotate_left)
  k_with "UnrEnd" => k_dflt (refine' UnrEnd.intro ?F_z ?N_z _ ?sub_z ?off_z (JT.intro ?hz_z ?s0_z ?s1_z ?hg_z); (case F_z => k_asm); (case N_z => k_asm); (case hz_z => (intro z z1 z2 z3 z4 z5 z6; simp [z1, z2, z3, z4, z5, z6])); (case sub_z => exact List.forall_mem_cons.mpr ⟨by k_mem, List.forall_mem_cons.mpr ⟨by k_mem, List.forall_mem_cons.mpr ⟨by k_mem, List.forall_mem_nil _⟩⟩⟩); (case off_z => k_all); (case s0_z => omega); (case s1_z => omega); (case hg_z => omega))
  k_with "Same" => k_dflt (refine' Same.intro ?F_z ?N_z ?sub_z; (case F_z => k_asm); (case N_z => k_asm); (case sub_z => repeat (first | exact List.forall_mem_nil _ | refine List.forall_mem_cons.mpr ⟨by k_mem, ?_⟩)))
  k_with "MidN" => k_dflt (refine' MidN.intro ?ok_z ?F_z ?N_z ?sub_z; (case F_z => k_asm); (case N_z => k_asm); (case sub_z => repeat (first | exact List.forall_mem_nil _ | refine List.forall_mem_cons.mpr ⟨by k_mem, ?_⟩)); (case ok_z => assumption))
  k_with "MidP" => k_dflt (refine' MidP.intro ?F_z ?N_z ?hm_z ?sub_z ?ht_z; (case F_z => k_asm); (case N_z => k_asm); (case hm_z => k_mem); (case sub_z => repeat (first | exact List.forall_mem_nil _ | refine List.forall_mem_cons.mpr ⟨by k_mem, ?_⟩)); (case ht_z => first | exact tup_plainE (by assumption) | exact tup_plain (by assumption)))
  k_with "compareOp NotEq ref ref" => (k_here; (with_reducible show wpAny _ _ (compareOp CmpOp.NotEq (Value.ref _) (Value.ref _)) _ _ _); k_dflt (refine' ne_tups ?N_z ?m1_z ?m2_z ?t1_z ?t2_z ?e_z ?hu_z ?_; (case N_z => k_asm); (case m1_z => k_mem); (case m2_z => k_mem); (case t1_z => assumption); (case t2_z => first | assumption | exact tup_none); (case e_z => first | exact rfl | assumption | exact Eq.trans (by assumption) (if_pos (by assumption)) | exact Eq.trans (by assumption) (if_neg (by assumption))); (case hu_z => k_units)))
  k_with "compareOp Eq ref ref" => (k_here; (with_reducible show wpAny _ _ (compareOp CmpOp.Eq (Value.ref _) (Value.ref _)) _ _ _); k_dflt (refine' eq_tups ?N_z ?m1_z ?m2_z ?t1_z ?t2_z ?e_z ?hu_z ?_; (case N_z => k_asm); (case m1_z => k_mem); (case m2_z => k_mem); (case t1_z => assumption); (case t2_z => first | assumption | exact tup_none); (case e_z => first | exact rfl | assumption | exact Eq.trans (by assumption) (if_pos (by assumption)) | exact Eq.trans (by assumption) (if_neg (by assumption))); (case hu_z => k_units)))
  k_go0
  all_goals try k_fold
  repeat' (first | (k_unfold; (try dsimp only)) | (k_end; wrow_close) | ((fail_if_success (with_reducible show wpAny _ _ (pyIter (Value.ref _)) (fun it s₂ => LoopAtV _ _ _ _ _ _ _ _ _ it s₂) _ _)); first | walk1 | (dsimp only; walk1) | (leave1; walk_say "STEP leave1"; try dsimp only)) | fail "no step")
  k_dflt (refine' law_loop ?hh ?hr ?F ?N ?h2 ?h3 ?_ ?_; (case hh => rfl); (case hr => assumption); (case F => k_asm); (case N => k_asm); (case h2 => k_mem); (case h3 => k_mem))
  · intro i u spot great t1 t2 n1 I it t h tk hi hs0 hs1 hg hp hc F' N'
    (try dsimp only)
    repeat' (first | (k_unfold; (try dsimp only)) | (k_end; wrow_close) | ((fail_if_success (with_reducible show wpAny _ _ (execs (Stmt.If _ _ _ _ :: _) _) _ _ _)); first | walk1 | (dsimp only; walk1) | (leave1; walk_say "STEP leave1"; try dsimp only)) | fail "no step")
    k_dflt (refine cut_same (by k_asm) (by k_asm) ?_ ?_)
    · k_steps
      all_goals trivial
    · intro h3 tk3 F' N'
      (try dsimp only)
      rename TupOf _ _ => ht
      k_dflt (refine cut_num ht (by k_asm) (by k_asm) ?_ ?_)
      · rcases tup_cases ht with ⟨tA, nA, rfl⟩ | ⟨TA, tA, tB, nA, rfl, okA⟩ | ⟨TA, PA, tA, tB, tC, nA, rfl, okA⟩
        · k_steps
          all_goals trivial
        · k_steps
          all_goals trivial
        · have hp0 := okA.pos
          have hp1 := okA.top
          k_steps
          all_goals trivial
      · intro s4 hM
        obtain ⟨T4, P4, x4, dx4, k4, l4, t4, u4, h4, tk4, rfl, ok, F', N'⟩ := hM
        have hle := ok.least
        have htx := ok.text
        have hp0 := ok.pos
        have hp1 := ok.top
        have e1 := least_read ok.pos ok.top ok.big ok.norm
        have e2 := text_read ok.pos ok.top ok.big ok.norm
        k_dflt (refine cut_plain (d := plainRd T4 P4) (by k_asm) (by k_asm) ?_ ?_)
        · k_steps
          all_goals trivial
        · intro s5 hM
          obtain ⟨X5, o5, h5, tk5, rfl, ht5, F', N'⟩ := hM
          k_dflt (refine cut_same (by k_asm) (by k_asm) ?_ ?_)
          · k_steps
            all_goals trivial
          · intro h6 tk6 F' N'
            (try dsimp only)
            k_dflt (refine cut_same (by k_asm) (by k_asm) ?_ ?_)
            · k_steps
              all_goals trivial
            · intro h7 tk7 F' N'
              (try dsimp only)
              k_steps
              all_goals trivial
  · intro u spot great t1 t2 n1 h tk F' N'
    (try dsimp only)
    k_steps
    all_goals trivial)
end TLaw3W
end Mine

namespace Mine
end Mine
set_option maxRecDepth 100000 in
theorem PySem.Challenge.cw_nn0197_01_holds : PySem.Challenge.rw_nn0197_01.Holds :=
  Mine.law_x
