import PyProof.Rows.All
import Wide.All
import OpenK.AllK
import Wide.FinOn
import PySem.Challenge.RW_xw0106_01
open PySem PySem.W PyProof.Rows PySem.Calls
set_option Elab.async false
set_option maxRecDepth 100000
namespace Mine
set_option maxRecDepth 100000 in
set_option maxHeartbeats 8000000 in
open_top hd for PySem.Challenge.rw_xw0106_01
section
/-- what a call that sees only the entries `mine` of the ledger `news` leaves as it was -/
structure Rest (h₀ : Heap) (L : Addr) (g : Heap) (mine news : List (Addr × Obj)) : Prop where
  back : ∀ h' : Heap, (∀ b o, g.get? b = some o → h'.get? b = some o) → News h₀ L h' mine → News h₀ L h' news
  off : ∀ q ∈ news, ∀ a, g.get? a = none → (∀ p ∈ mine, p.1 ≠ a) → q.1 ≠ a

section
variable {prog : Program} {w : World} {A A₀ : Around} {s : Shared} {K : Frag} {L : Addr} {h₀ base : Heap} {m mg mb : Str → Option Value} {news mine : List (Addr × Obj)} {p : Program} {loose : List Str} {mean : ExcName → Option Value}
  {env : Env} {outer : List Env} {R : Result → Shared → Prop} {name qual : Str} {params : Arguments} {body : List Stmt} {scope : Scope} {dV kV doc pm cdv ct oc : Value} {an od : Option Addr} {osl : Array (Option Value)} {f : Addr} {args : Args} {binds : List (Str × Value)}

theorem rest_of (N : News h₀ L s.heap news) (sub : ∀ q ∈ mine, q ∈ news) : Rest h₀ L (hideAll s.heap (mine.map (·.1))) mine news where
  back := fun h' hk NM q hq => by
    have n := N q hq
    refine ⟨?_, n.2⟩
    by_cases hm : q.1 ∈ mine.map (·.1)
    · obtain ⟨p, hp, e⟩ := List.mem_map.mp hm
      have n1 := N p (sub p hp)
      have n2 := NM p hp
      rw [e] at n1 n2
      rw [n2.1]
      exact n1.1.symm.trans n.1
    · exact hk _ _ (hideAll_get _ n.1 hm)
  off := fun q hq a ha hne e => by
    by_cases hm : q.1 ∈ mine.map (·.1)
    · obtain ⟨p, hp, e'⟩ := List.mem_map.mp hm
      exact hne p hp (e'.trans e)
    · have := hideAll_get _ (N q hq).1 hm
      rw [e, ha] at this
      cases this

/-- a def called: it sees of the ledger its own arguments' part alone -/
theorem own_def (sub : ∀ q ∈ mine, q ∈ news)
    (B : Below A₀ base outer h₀) (F : Fr h₀ L s.heap m) (X₀ : K.In h₀) (N : News h₀ L s.heap news) (T : Top p loose mean mg mb h₀) (hA : A.frames = some (env :: outer)) (hf : env.frame = some L) (hke : env.scope.kind = .function)
    (ho : K.lookup f = some ⟨oc, od, .func (fnOf name qual params body scope dV kV doc pm an cdv ct), osl⟩) (hcd : codeIn K cdv qual = true) (hroom : A.depth < recursionLimit)
    (hbind : BindsTo s (fnOf name qual params body scope dV kV doc pm an cdv ct) args binds) (hloc : ∀ y ∈ binds, scope.names.lookup y.1 = some .local)
    (h : ∀ g L' h₁, Fr h₀ L g m → Fr g L' h₁ (fun y => binds.reverse.lookup y) → News g L' h₁ mine → Below A base (env :: outer) g → K.In g → Top p loose mean mg mb g → Rest h₀ L g mine news →
      wpAny (model prog w) (A.deeper (envOf qual scope L' f cdv)) (execs body (envOf qual scope L' f cdv))
        (fun fl s' => LeaveK h₀ L m g R (match fl with | .ret v => v | _ => .none) s')
        (fun e s' => wpAny (model prog w) (A.deeper (envOf qual scope L' f cdv)) (leaving (envOf qual scope L' f cdv) e) (fun _ s'' => R (.error e) s'') (fun e' s'' => R (.error e') s'') s')
        { s with heap := h₁, toks := s.toks + binds.length })
    (hco : scope.isCoroutine = false) (hgen : scope.isGenerator = false) (hk : scope.kind = .function)
    (hcell : ∀ x ∈ scope.names, x.2 ≠ .cell) : codeAny (model prog w) A (.call (.ref f) args) R s := by
  have NM : News h₀ L s.heap mine := fun q hq => N q (sub q hq)
  obtain ⟨FG, BG, st, lv⟩ := groundX (R := R) B F NM hA hf hke
  have Xs := X₀.keeps F.keep
  refine codeAny_call_def (fd := fnOf name qual params body scope dV kV doc pm an cdv ct) (body := body) (binds := binds) hroom (Xs _ _ ho) rfl (T.nolimit.keeps F.keep) (codeRec_of Xs hcd) rfl hbind hcell hloc (fun h₁ hns hk₁ => ?_) hco hgen hk
  have hsz : (hideAll s.heap (mine.map (·.1))).objs.size ≤ s.heap.objs.size := Nat.le_of_eq (hideAll_size _ _)
  have F1 : Fr (hideAll s.heap (mine.map (·.1))) s.heap.objs.size h₁ (fun y => binds.reverse.lookup y) := ⟨hns, fun b o e => hk₁ b o (of_hideAll _ e), hsz⟩
  have N1 : News (hideAll s.heap (mine.map (·.1))) s.heap.objs.size h₁ mine := fun q hq =>
    ⟨hk₁ _ _ (NM q hq).1, Nat.ne_of_lt (Heap.lt_size (NM q hq).1), hideAll_none _ (List.mem_map_of_mem hq)⟩
  exact wpAny_mono (h _ _ h₁ FG F1 N1 BG (X₀.keeps st) (T.keeps st) (rest_of N sub)) (fun fl s' hl => lv _ _ hl) fun _ _ y => y
end

/-- a contract: the def at f, called with vs, of which the ledger bears `mine`, hands back r and has made tl -/
def Does (prog : Program) (w : World) (K : Frag) (p : Program) (loose : List Str) (mean : ExcName → Option Value) (mg mb : Str → Option Value) (lv : Nat) (f : Addr) (vs : List Value) (mine : List (Addr × Obj)) (Out : Value → List (Addr × Obj) → Prop) : Prop :=
  ∀ (dp un : Nat) (gd : Option (List Code)) (cn : Str) (cs : Scope) (a : Addr) (ccd : Value) (cl : List (Str × Addr)) (outer : List Env) (A₀ : Around) (base h₀ : Heap) (L : Addr) (m : Str → Option Value) (news : List (Addr × Obj)) (s : Shared)
    (Q E : Value → Shared → Prop),
    Below A₀ base outer h₀ → Fr h₀ L s.heap m → K.In h₀ → News h₀ L s.heap news → Top p loose mean mg mb h₀ → cs.kind = .function → (∀ q ∈ mine, q ∈ news) → dp + lv < recursionLimit → un + 8 * lv < cLine →
    (∀ r tl h' tk', Out r tl → Fr h₀ L h' m → News h₀ L h' (tl ++ news) → (∀ q ∈ news, ∀ p ∈ tl, @Ne Nat q.1 p.1) → Q r { s with heap := h', toks := tk' }) →
    wpAny (model prog w) (ktrTop dp un gd cn cs L a ccd cl outer) (call (.ref f) vs) Q E s

theorem does_use {prog : Program} {w : World} {K : Frag} {p : Program} {loose : List Str} {mean : ExcName → Option Value} {mg mb : Str → Option Value} {lv : Nat} {f : Addr} {vs : List Value} {mine : List (Addr × Obj)} {Out : Value → List (Addr × Obj) → Prop}
    (C : Does prog w K p loose mean mg mb lv f vs mine Out)
    {dp un : Nat} {gd : Option (List Code)} {cn : Str} {cs : Scope} {a : Addr} {ccd : Value} {cl : List (Str × Addr)} {outer : List Env} {A₀ : Around} {base h₀ : Heap} {L : Addr} {m : Str → Option Value} {news : List (Addr × Obj)} {s : Shared}
    {Q E : Value → Shared → Prop} (B : Below A₀ base outer h₀) (F : Fr h₀ L s.heap m) (X : K.In h₀) (N : News h₀ L s.heap news) (T : Top p loose mean mg mb h₀) (hk : cs.kind = .function) (sub : ∀ q ∈ mine, q ∈ news) (hd : dp + lv < recursionLimit) (hu : un + 8 * lv < cLine)
    (ret : ∀ r tl h' tk', Out r tl → Fr h₀ L h' m → News h₀ L h' (tl ++ news) → (∀ q ∈ news, ∀ p ∈ tl, @Ne Nat q.1 p.1) → Q r { s with heap := h', toks := tk' }) :
    wpAny (model prog w) (ktrTop dp un gd cn cs L a ccd cl outer) (call (.ref f) vs) Q E s := C _ _ _ _ _ _ _ _ _ _ _ _ _ _ _ _ _ _ B F X N T hk sub hd hu ret

/-- a contract's end -/
theorem own_ret {h₀ h' g : Heap} {L L' : Addr} {m m' : Str → Option Value} {news mine led tl : List (Addr × Obj)} {s : Shared} {Q : Value → Shared → Prop} {r : Value} {tk' : Nat} {Out : Value → List (Addr × Obj) → Prop}
    (ret : ∀ r tl h' tk', Out r tl → Fr h₀ L h' m → News h₀ L h' (tl ++ news) → (∀ q ∈ news, ∀ p ∈ tl, @Ne Nat q.1 p.1) → Q r { s with heap := h', toks := tk' })
    (Y : Rest h₀ L g mine news) (F : Fr h₀ L h' m) (N : News h₀ L h' led) (F' : Fr g L' h' m') (N' : News g L' h' led)
    (o : Out r tl) (hm : ∀ q ∈ mine, q ∈ led) (ht : ∀ q ∈ tl, q ∈ led) (hne : ∀ p ∈ tl, ∀ q ∈ mine, q.1 ≠ p.1) : Q r { s with heap := h', toks := tk' } := by
  refine ret r tl h' tk' o F ?_ ?_
  · intro q hq
    rcases List.mem_append.mp hq with hq | hq
    · exact N q (ht q hq)
    · exact Y.back h' F'.keep (fun z hz => N z (hm z hz)) q hq
  · exact fun q hq z hz => Y.off q hq z.1 (N' z (ht z hz)).2.2 (hne z hz)
end
section
theorem pow_lo {W : Int} (h1 : 5 ≤ W) (h2 : W ≤ 7) : (32 : Int) ≤ 2 ^ W.toNat ∧ (2 : Int) ^ W.toNat ≤ 128 := by
  have : W = 5 ∨ W = 6 ∨ W = 7 := by omega
  rcases this with rfl | rfl | rfl <;> decide
theorem fd_small {n u : Int} (h1 : 0 ≤ n) (h2 : n < u) : n.fdiv u = 0 := by
  rw [Int.fdiv_eq_ediv_of_nonneg _ (by omega)]; exact Int.ediv_eq_zero_of_lt h1 h2
theorem fm_small {n u : Int} (h1 : 0 ≤ n) (h2 : n < u) : n.fmod u = n := by
  rw [Int.fmod_eq_emod_of_nonneg _ (by omega)]; exact Int.emod_eq_of_lt h1 h2
theorem whlIf_by {p : Prop} [Decidable p] {T F : Prop} (t : p → T) (f : ¬ p → F) : WhlIf (decide p) T F := by
  by_cases h : p
  · exact WhlIf.yes (decide_eq_true h) (t h)
  · exact WhlIf.no (decide_eq_false h) (f h)
theorem sub1 {p : Addr × Obj} {news : List (Addr × Obj)} (h : p ∈ news) : ∀ q ∈ [p], q ∈ news := fun q hq => by
  rw [List.mem_singleton.mp hq]; exact h
section
variable {prog : Program} {w : World} {A : Around} {E : Value → Shared → Prop} {s : Shared} {a b v : Int} {t u : Tok} {Q : Value → Shared → Prop}
theorem fdiv_is (h0 : 0 ≤ a) (h1 : a < b) (h2 : b < 1073741824) (h : Q (.int 0 s.toks) { s with toks := s.toks + 1 }) : wpAny (model prog w) A (binaryOp .FloorDiv (.int a t) (.int b u)) Q E s :=
  floordiv_int (by omega) (by rw [fd_small h0 h1]; exact h) (Or.inl (PyProof.noPylong_small (by omega)))
theorem fmod_is (h0 : 0 ≤ a) (h1 : a < b) (h : Q (.int a s.toks) { s with toks := s.toks + 1 }) : wpAny (model prog w) A (binaryOp .Mod (.int a t) (.int b u)) Q E s :=
  mod_int' (by omega) (by rw [fm_small h0 h1]; exact h)
theorem irsh_is (hb : 0 ≤ b) (h0 : 0 ≤ a) (h1 : a < 2 ^ b.toNat) (h : Q (.int 0 s.toks) { s with toks := s.toks + 1 }) : wpAny (model prog w) A (inplaceOp .RShift (.int a t) (.int b u)) Q E s :=
  irshift_int hb (by rw [fd_small h0 h1]; exact h)
theorem lsh1_is (h0 : 0 ≤ a) (h1 : a < 32) (h : Q (.int (2 * a) s.toks) { s with toks := s.toks + 1 }) : wpAny (model prog w) A (binaryOp .LShift (.int a t) (.int 1 u)) Q E s :=
  lshift_int_small (by omega) (by omega) (by omega) (by rw [show a * 2 ^ Int.toNat 1 = 2 * a from Int.mul_comm a 2]; exact h)
theorem and_is (e : Builtin.bitAnd a b = v) (h : Q (.int v s.toks) { s with toks := s.toks + 1 }) : wpAny (model prog w) A (binaryOp .BitAnd (.int a t) (.int b u)) Q E s := and_int (by rw [e]; exact h)
theorem ior_is (e : Builtin.bitOr a b = v) (h : Q (.int v s.toks) { s with toks := s.toks + 1 }) : wpAny (model prog w) A (inplaceOp .BitOr (.int a t) (.int b u)) Q E s := ior_int (by rw [e]; exact h)
end
theorem mask_is {n W : Int} (h1 : 0 ≤ n) (h2 : n < 32) (hw1 : 5 ≤ W) (hw2 : W ≤ 7) : Builtin.bitAnd n (1 * 2 ^ W.toNat - 1) = n := by
  have hp := pow_lo hw1 hw2
  rw [Int.one_mul, kbt_mask]; exact Int.emod_eq_of_lt h1 (by omega)
theorem bits_le {x : Int} (h1 : 1 ≤ x) (h2 : x < 32) : 1 ≤ Builtin.Int.intBits x ∧ Builtin.Int.intBits x ≤ 5 := by
  have key : ∀ k : Fin 32, 1 ≤ k.val → 1 ≤ Builtin.Int.intBits ((k.val : Nat) : Int) ∧ Builtin.Int.intBits ((k.val : Nat) : Int) ≤ 5 := by decide +kernel
  have := key ⟨x.toNat, by omega⟩ (by show 1 ≤ x.toNat; omega)
  rwa [show ((x.toNat : Nat) : Int) = x by omega] at this
theorem low_is {x : Int} (h1 : 1 ≤ x) (h2 : x < 32) : Builtin.bitAnd x (2 ^ (Builtin.Int.intBits x - 1) - 1) = x - 2 ^ (Builtin.Int.intBits x - 1) ∧ 0 ≤ x - 2 ^ (Builtin.Int.intBits x - 1) ∧ x - 2 ^ (Builtin.Int.intBits x - 1) < 16 := by
  have key : ∀ k : Fin 32, 1 ≤ k.val → Builtin.bitAnd ((k.val : Nat) : Int) (2 ^ (Builtin.Int.intBits ((k.val : Nat) : Int) - 1) - 1) = ((k.val : Nat) : Int) - 2 ^ (Builtin.Int.intBits ((k.val : Nat) : Int) - 1) ∧ 0 ≤ ((k.val : Nat) : Int) - 2 ^ (Builtin.Int.intBits ((k.val : Nat) : Int) - 1) ∧ ((k.val : Nat) : Int) - 2 ^ (Builtin.Int.intBits ((k.val : Nat) : Int) - 1) < 16 := by decide +kernel
  have := key ⟨x.toNat, by omega⟩ (by show 1 ≤ x.toNat; omega)
  rwa [show ((x.toNat : Nat) : Int) = x by omega] at this
theorem sub0 {news : List (Addr × Obj)} : ∀ q ∈ ([] : List (Addr × Obj)), q ∈ news := fun _ h => absurd h List.not_mem_nil
theorem ne1 {l x : Addr} {o o' : Obj} (h : l ≠ x) : ∀ p ∈ [(x, o)], ∀ q ∈ [(l, o')], q.1 ≠ p.1 := fun p hp q hq => by
  rw [List.mem_singleton.mp hp, List.mem_singleton.mp hq]; exact h
theorem or_zero {n : Int} (h1 : 0 ≤ n) (h2 : n < 32) : Builtin.bitOr 0 n = n := by
  have key : ∀ k : Fin 32, Builtin.bitOr 0 ((k.val : Nat) : Int) = ((k.val : Nat) : Int) := by decide +kernel
  have := key ⟨n.toNat, by omega⟩
  rwa [show ((n.toNat : Nat) : Int) = n by omega] at this
def tn (x : Int) : Int := 2 * (x - 2 ^ (Builtin.Int.intBits x - 1)) + 1
def nx (n : Int) : Int := Builtin.bitAnd n (n - 1)
def pc : Nat → Int → Int
  | 0, _ => 0
  | k + 1, n => if 0 < n then 1 + pc k (nx n) else 0
theorem pc6 (n : Int) : pc 6 n = if 0 < n then 1 + (if 0 < nx n then 1 + (if 0 < nx (nx n) then 1 + (if 0 < nx (nx (nx n)) then 1 + (if 0 < nx (nx (nx (nx n))) then 1 + (if 0 < nx (nx (nx (nx (nx n)))) then 1 + 0 else 0) else 0) else 0) else 0) else 0) else 0 := by
  simp only [pc]
theorem nx5 {n : Int} (h1 : 0 ≤ n) (h2 : n < 32) : ¬ 0 < nx (nx (nx (nx (nx n)))) := by
  have key : ∀ k : Fin 32, ¬ 0 < nx (nx (nx (nx (nx ((k.val : Nat) : Int))))) := by decide +kernel
  have := key ⟨n.toNat, by omega⟩
  rwa [show ((n.toNat : Nat) : Int) = n by omega] at this
end
section
local macro_rules | `(tactic| walk_at "exec While Compare cons nil") => `(tactic| (k_here; k_dflt (refine whl_start 100 ?_)))
local macro_rules | `(tactic| walk_at "exec While BoolOp") => `(tactic| (k_here; k_dflt (refine whl_start 100 ?_)))
local macro_rules | `(tactic| walk_at "WhlIf") => `(tactic| (first | (refine WhlIf.yes (decide_eq_true (by omega)) ?_) | (refine WhlIf.no (decide_eq_false (by omega)) ?_)))
set_option maxHeartbeats 400000 in
theorem limbs_does (w : World) (s₀ : Shared) (mg mb : Str → Option Value) (n W : Int) (tn tw : Tok) (h1 : 1 ≤ n) (h2 : n < 32) (hw1 : 5 ≤ W) (hw2 : W ≤ 7) :
    Does PySem.Challenge.rw_xw0106_01.row.prog w (hd.heap_39 w.params) hd.view_39 (looseW hd.view_39 []) (ExcName.means s₀.heap) mg mb 4 107 [.int n tn, .int W tw] [] (fun r tl => ∃ x t k, r = .ref x ∧ tl = [(x, PySem.W.listOf #[.int n t] k)]) := by
  w_top off
  k_fill
  intro dp un gd cn cs a ccd cl outer A₀ base h₀ L m news s Q E B F X N T hk sub hdp hun hret
  have hp := pow_lo hw1 hw2
  have e1 : n.fdiv (2 ^ W.toNat) = 0 := fd_small (by omega) (by omega)
  have e2 : n.fmod (2 ^ W.toNat) = n := fm_small (by omega) (by omega)
  refine wpAny_call ?_
  k_dflt (refine' own_def (mine := []) sub ?k1 ?k2 ?k3 ?k4 ?k5 ?kA ?kF ?kK ?k6 ?k7 ?k8 ?k9 ?kB ?_ ?c2 ?c3 ?c4 ?c5; (case kA => exact rfl); (case kF => exact rfl); (case kK => assumption); (case k1 => k_asm); (case k2 => k_asm); (case k3 => k_asm); (case k4 => k_asm); (case k5 => k_asm); (case k6 => k_is); (case k7 => k_is); (case k8 => ktr_room); (case k9 => exact BindsTo.of_eq rfl); (case c5 => decide); (case kB => exact locs rfl); (case c2 => exact rfl); (case c3 => exact rfl); (case c4 => exact rfl); k_whole; intro g' L' h' FG' F' N' B' X' T' Y'; (try dsimp only); (try k_lift B'); (try k_fold))
  k_steps
  rename Fr h₀ L _ m => kF9
  rename News h₀ L _ _ => kN9
  rename Fr g' _ _ _ => F9
  rename News g' _ _ _ => N9
  rw [e2] at kN9 N9
  exact own_ret hret Y' kF9 kN9 F9 N9 ⟨_, _, _, rfl, rfl⟩ sub0 (sub1 (by k_mem)) (fun _ _ _ h => absurd h List.not_mem_nil)
end
section
local macro_rules | `(tactic| walk_at "call ref") => `(tactic| (k_here; k_dflt (refine wpAny_call ?_; (refine' code_def ?k1 ?k2 ?k3 ?k4 ?k5 ?kA ?kF ?kK ?k6 ?k7 ?k8 ?k9 ?kB ?_ ?c2 ?c3 ?c4 ?c5; (case kA => exact rfl); (case kF => exact rfl); (case kK => first | exact rfl | assumption); (case k1 => k_asm); (case k2 => k_asm); (case k3 => k_asm); (case k4 => k_asm); (case k5 => k_asm); (case k6 => k_is); (case k7 => k_is); (case k8 => ktr_room); (case k9 => exact BindsTo.of_eq rfl); (case c5 => decide); (case kB => exact locs rfl); (case c2 => exact rfl); (case c3 => exact rfl); (case c4 => exact rfl); k_whole; intro g' L' h' FG' F' N' B' X' T'; (try dsimp only); (try k_lift B'); (try k_fold)))))
local macro_rules | `(tactic| walk_at "exec While Compare cons nil") => `(tactic| (k_here; k_dflt (refine whl_start 100 ?_)))
local macro_rules | `(tactic| walk_at "exec While BoolOp") => `(tactic| (k_here; k_dflt (refine whl_start 100 ?_)))
local macro_rules | `(tactic| walk_at "WhlIf") => `(tactic| (first | (refine WhlIf.yes (decide_eq_true (by omega)) ?_) | (refine WhlIf.no (decide_eq_false (by omega)) ?_)))
local macro_rules | `(tactic| walk_at "pyIter ref") => `(tactic| ((with_reducible show wpAny _ _ (pyIter (Value.ref _)) (fun it s₂ => LoopAtV _ _ _ _ _ _ _ _ _ it s₂) _ _); k_listUnr))
local macro_rules | `(tactic| walk_at "exec For Name Subscript cons nil") => `(tactic| (k_here; (rename Fr _ _ _ _ => lF'); (with_unfolding_all refine' For_invVF lF' ?k1 ?k2 ?_; (case k1 => exact rfl); (case k2 => exact rfl); k_whole)))
set_option maxHeartbeats 400000 in
theorem told_does (w : World) (s₀ : Shared) (mg mb : Str → Option Value) (l : Addr) (x W : Int) (t tw : Tok) (k : Nat) (h1 : 1 ≤ x) (h2 : x < 32) (hw1 : 5 ≤ W) (hw2 : W ≤ 7) :
    Does PySem.Challenge.rw_xw0106_01.row.prog w (hd.heap_39 w.params) hd.view_39 (looseW hd.view_39 []) (ExcName.means s₀.heap) mg mb 4 114 [.ref l, .int W tw] [(l, PySem.W.listOf #[.int x t] k)] (fun r tl => tl = [] ∧ ∃ t, r = .int x t) := by
  w_top off
  k_fill
  intro dp un gd cn cs a ccd cl outer A₀ base h₀ L m news s Q E B F X N T hk sub hdp hun hret
  refine wpAny_call ?_
  k_dflt (refine' own_def (mine := [(l, PySem.W.listOf #[.int x t] k)]) sub ?k1 ?k2 ?k3 ?k4 ?k5 ?kA ?kF ?kK ?k6 ?k7 ?k8 ?k9 ?kB ?_ ?c2 ?c3 ?c4 ?c5; (case kA => exact rfl); (case kF => exact rfl); (case kK => assumption); (case k1 => k_asm); (case k2 => k_asm); (case k3 => k_asm); (case k4 => k_asm); (case k5 => k_asm); (case k6 => k_is); (case k7 => k_is); (case k8 => ktr_room); (case k9 => exact BindsTo.of_eq rfl); (case c5 => decide); (case kB => exact locs rfl); (case c2 => exact rfl); (case c3 => exact rfl); (case c4 => exact rfl); k_whole; intro g' L' h' FG' F' N' B' X' T' Y'; (try dsimp only); (try k_lift B'); (try k_fold))
  k_steps
  rename Fr h₀ L _ m => kF9
  rename News h₀ L _ _ => kN9
  rename Fr g' _ _ _ => F9
  rename News g' _ _ _ => N9
  rw [show (0 : Int) * 2 ^ W.toNat + x = x by rw [Int.zero_mul, Int.zero_add]]
  exact own_ret (tl := []) hret Y' kF9 kN9 F9 N9 ⟨rfl, _, rfl⟩ (sub1 (by k_mem)) (fun _ h => nomatch h) (fun _ h => nomatch h)
end
section
local macro_rules | `(tactic| walk_at "call ref") => `(tactic| (k_here; k_dflt (refine wpAny_call ?_; (refine' code_def ?k1 ?k2 ?k3 ?k4 ?k5 ?kA ?kF ?kK ?k6 ?k7 ?k8 ?k9 ?kB ?_ ?c2 ?c3 ?c4 ?c5; (case kA => exact rfl); (case kF => exact rfl); (case kK => first | exact rfl | assumption); (case k1 => k_asm); (case k2 => k_asm); (case k3 => k_asm); (case k4 => k_asm); (case k5 => k_asm); (case k6 => k_is); (case k7 => k_is); (case k8 => ktr_room); (case k9 => exact BindsTo.of_eq rfl); (case c5 => decide); (case kB => exact locs rfl); (case c2 => exact rfl); (case c3 => exact rfl); (case c4 => exact rfl); k_whole; intro g' L' h' FG' F' N' B' X' T'; (try dsimp only); (try k_lift B'); (try k_fold)))))
local macro_rules | `(tactic| walk_at "exec While Compare cons nil") => `(tactic| (k_here; k_dflt (refine whl_start 100 ?_)))
local macro_rules | `(tactic| walk_at "exec While BoolOp") => `(tactic| (k_here; k_dflt (refine whl_start 100 ?_)))
local macro_rules | `(tactic| walk_at "WhlIf") => `(tactic| (refine whlIf_by (fun hb => ?_) (fun hb => ?_)))
local macro_rules | `(tactic| walk_at "WhlIf") => `(tactic| (first | (refine WhlIf.yes (decide_eq_true (by omega)) ?_) | (refine WhlIf.no (decide_eq_false (by omega)) ?_)))
set_option maxHeartbeats 400000 in
theorem ones_does (w : World) (s₀ : Shared) (mg mb : Str → Option Value) (l : Addr) (n : Int) (t : Tok) (k : Nat) (h1 : 1 ≤ n) (h2 : n < 32) :
    Does PySem.Challenge.rw_xw0106_01.row.prog w (hd.heap_39 w.params) hd.view_39 (looseW hd.view_39 []) (ExcName.means s₀.heap) mg mb 4 93 [.ref l] [(l, PySem.W.listOf #[.int n t] k)] (fun r tl => tl = [] ∧ ∃ t, r = .int (pc 6 n) t) := by
  w_top off
  k_fill
  intro dp un gd cn cs a ccd cl outer A₀ base h₀ L m news s Q E B F X N T hk sub hdp hun hret
  have hz := nx5 (show 0 ≤ n by omega) h2
  unfold nx at hz
  have hpc := pc6 n
  unfold nx at hpc
  generalize pc 6 n = q at hpc hret
  refine wpAny_call ?_
  k_dflt (refine' own_def (mine := [(l, PySem.W.listOf #[.int n t] k)]) sub ?k1 ?k2 ?k3 ?k4 ?k5 ?kA ?kF ?kK ?k6 ?k7 ?k8 ?k9 ?kB ?_ ?c2 ?c3 ?c4 ?c5; (case kA => exact rfl); (case kF => exact rfl); (case kK => assumption); (case k1 => k_asm); (case k2 => k_asm); (case k3 => k_asm); (case k4 => k_asm); (case k5 => k_asm); (case k6 => k_is); (case k7 => k_is); (case k8 => ktr_room); (case k9 => exact BindsTo.of_eq rfl); (case c5 => decide); (case kB => exact locs rfl); (case c2 => exact rfl); (case c3 => exact rfl); (case c4 => exact rfl); k_whole; intro g' L' h' FG' F' N' B' X' T' Y'; (try dsimp only); (try k_lift B'); (try k_fold))
  k_steps
  all_goals (
    rename Fr h₀ L _ m => kF9
    rename News h₀ L _ _ => kN9
    rename Fr g' _ _ _ => F9
    rename News g' _ _ _ => N9
    refine own_ret (tl := []) hret Y' kF9 kN9 F9 N9 ⟨rfl, _, congrArg (Value.int · _) ?_⟩ (sub1 (by k_mem)) (fun _ h => nomatch h) (fun _ h => nomatch h)
    rw [hpc]
    (repeat' split) <;> omega)
end
section
local macro_rules | `(tactic| walk_at "call ref") => `(tactic| (k_here; k_dflt (refine wpAny_call ?_; (refine' code_def ?k1 ?k2 ?k3 ?k4 ?k5 ?kA ?kF ?kK ?k6 ?k7 ?k8 ?k9 ?kB ?_ ?c2 ?c3 ?c4 ?c5; (case kA => exact rfl); (case kF => exact rfl); (case kK => first | exact rfl | assumption); (case k1 => k_asm); (case k2 => k_asm); (case k3 => k_asm); (case k4 => k_asm); (case k5 => k_asm); (case k6 => k_is); (case k7 => k_is); (case k8 => ktr_room); (case k9 => exact BindsTo.of_eq rfl); (case c5 => decide); (case kB => exact locs rfl); (case c2 => exact rfl); (case c3 => exact rfl); (case c4 => exact rfl); k_whole; intro g' L' h' FG' F' N' B' X' T'; (try dsimp only); (try k_lift B'); (try k_fold)))))
local macro_rules | `(tactic| walk_at "exec While Compare cons nil") => `(tactic| (k_here; k_dflt (refine whl_start 100 ?_)))
local macro_rules | `(tactic| walk_at "exec While BoolOp") => `(tactic| (k_here; k_dflt (refine whl_start 100 ?_)))
local macro_rules | `(tactic| walk_at "WhlIf") => `(tactic| (first | (refine WhlIf.yes (decide_eq_true (by omega)) ?_) | (refine WhlIf.no (decide_eq_false (by omega)) ?_)))
set_option maxHeartbeats 400000 in
theorem normal_does (w : World) (s₀ : Shared) (mg mb : Str → Option Value) (l : Addr) (q : Int) (t : Tok) (k : Nat) (hq : 0 ≤ q) :
    Does PySem.Challenge.rw_xw0106_01.row.prog w (hd.heap_39 w.params) hd.view_39 (looseW hd.view_39 []) (ExcName.means s₀.heap) mg mb 2 46 [.ref l] [(l, PySem.W.listOf #[.int q t] k)] (fun r tl => ∃ x o k, r = .ref x ∧ tl = [(x, o)] ∧ ((q = 0 ∧ o = PySem.W.listOf #[] k) ∨ (q ≠ 0 ∧ o = PySem.W.listOf #[.int q t] k))) := by
  w_top off
  k_fill
  intro dp un gd cn cs a ccd cl outer A₀ base h₀ L m news s Q E B F X N T hk sub hdp hun hret
  have hd0 : [q].getD ((1 : Int) - 1).toNat (0 : Int) = q := rfl
  refine wpAny_call ?_
  k_dflt (refine' own_def (mine := [(l, PySem.W.listOf #[.int q t] k)]) sub ?k1 ?k2 ?k3 ?k4 ?k5 ?kA ?kF ?kK ?k6 ?k7 ?k8 ?k9 ?kB ?_ ?c2 ?c3 ?c4 ?c5; (case kA => exact rfl); (case kF => exact rfl); (case kK => assumption); (case k1 => k_asm); (case k2 => k_asm); (case k3 => k_asm); (case k4 => k_asm); (case k5 => k_asm); (case k6 => k_is); (case k7 => k_is); (case k8 => ktr_room); (case k9 => exact BindsTo.of_eq rfl); (case c5 => decide); (case kB => exact locs rfl); (case c2 => exact rfl); (case c3 => exact rfl); (case c4 => exact rfl); k_whole; intro g' L' h' FG' F' N' B' X' T' Y'; (try dsimp only); (try k_lift B'); (try k_fold))
  k_steps
  all_goals (
    rename Fr h₀ L _ m => kF9
    rename News h₀ L _ _ => kN9
    rename Fr g' _ _ _ => F9
    rename News g' _ _ _ => N9
    first
      | exact own_ret hret Y' kF9 kN9 F9 N9 ⟨_, _, _, rfl, rfl, Or.inl ⟨by omega, rfl⟩⟩ (sub1 (by k_mem)) (sub1 (by k_mem)) (ne1 (by k_ne))
      | exact own_ret hret Y' kF9 kN9 F9 N9 ⟨_, _, _, rfl, rfl, Or.inr ⟨by omega, rfl⟩⟩ (sub1 (by k_mem)) (sub1 (by k_mem)) (ne1 (by k_ne)))
end
section
local macro_rules | `(tactic| walk_at "call ref") => `(tactic| (k_here; k_dflt (refine wpAny_call ?_; (refine' code_def ?k1 ?k2 ?k3 ?k4 ?k5 ?kA ?kF ?kK ?k6 ?k7 ?k8 ?k9 ?kB ?_ ?c2 ?c3 ?c4 ?c5; (case kA => exact rfl); (case kF => exact rfl); (case kK => first | exact rfl | assumption); (case k1 => k_asm); (case k2 => k_asm); (case k3 => k_asm); (case k4 => k_asm); (case k5 => k_asm); (case k6 => k_is); (case k7 => k_is); (case k8 => ktr_room); (case k9 => exact BindsTo.of_eq rfl); (case c5 => decide); (case kB => exact locs rfl); (case c2 => exact rfl); (case c3 => exact rfl); (case c4 => exact rfl); k_whole; intro g' L' h' FG' F' N' B' X' T'; (try dsimp only); (try k_lift B'); (try k_fold)))))
local macro_rules | `(tactic| walk_at "call ref") => `(tactic| (k_here; k_dflt (refine' does_use (normal_does _ _ _ _ _ _ _ _ ?hq) ?k1 ?k2 ?k3 ?k4 ?k5 ?kK ?kS ?kd ?ku ?_; (case k1 => k_asm); (case k2 => k_asm); (case k3 => k_asm); (case k4 => k_asm); (case k5 => k_asm); (case kK => first | exact rfl | assumption); (case kS => first | exact sub0 | (refine sub1 ?_; k_mem)); (case kd => ktr_room); (case ku => ktr_units); (case hq => first | assumption | omega); k_whole; intro r9 tl9 h9 tk9 ho9 F9 N9 hn9; obtain ⟨x9, o9, k9, hr9, ht9, hc9⟩ := ho9; subst hr9 ht9; (rcases hc9 with ⟨hq9, hc9⟩ | ⟨hq9, hc9⟩) <;> subst hc9 <;> ((try simp only [List.cons_append, List.nil_append] at N9); (try simp only [List.mem_cons, forall_eq_or_imp, List.not_mem_nil, false_implies, implies_true, and_true, forall_eq] at hn9); (try dsimp only); (try k_fold)))))
local macro_rules | `(tactic| walk_at "exec While Compare cons nil") => `(tactic| (k_here; k_dflt (refine whl_start 100 ?_)))
local macro_rules | `(tactic| walk_at "exec While BoolOp") => `(tactic| (k_here; k_dflt (refine whl_start 100 ?_)))
local macro_rules | `(tactic| walk_at "WhlIf") => `(tactic| (first | (refine WhlIf.yes (decide_eq_true (by omega)) ?_) | (refine WhlIf.no (decide_eq_false (by omega)) ?_)))
set_option maxHeartbeats 400000 in
theorem divrem_does (w : World) (s₀ : Shared) (mg mb : Str → Option Value) (l : Addr) (n z W : Int) (t tz tw : Tok) (k : Nat) (h1 : 1 ≤ n) (h2 : n < 32) (hz1 : 1 ≤ z) (hz2 : z ≤ 16) (hw1 : 5 ≤ W) (hw2 : W ≤ 7) :
    Does PySem.Challenge.rw_xw0106_01.row.prog w (hd.heap_39 w.params) hd.view_39 (looseW hd.view_39 []) (ExcName.means s₀.heap) mg mb 4 60 [.ref l, .int z tz, .int W tw] [(l, PySem.W.listOf #[.int n t] k)] (fun r tl => ∃ x v t k, r = .ref x ∧ tl = [(x, ({ cls := .type "tuple", data := .seq #[v, .int (n.fmod z) t] k } : Obj))]) := by
  w_top off
  k_fill
  intro dp un gd cn cs a ccd cl outer A₀ base h₀ L m news s Q E B F X N T hk sub hdp hun hret
  have hor : Builtin.bitOr (0 * 2 ^ W.toNat) ([n].getD (Int.toNat 0) 0) = n := by rw [Int.zero_mul]; exact or_zero (n := n) (by omega) (by omega)
  have hq0 : 0 ≤ n.fdiv z := by rw [Int.fdiv_eq_ediv_of_nonneg _ (by omega)]; exact Int.ediv_nonneg (by omega) (by omega)
  have hq1 : 0 ≤ (Builtin.bitOr (0 * 2 ^ W.toNat) ([n].getD (Int.toNat 0) 0)).fdiv z := by rw [hor]; exact hq0
  refine wpAny_call ?_
  k_dflt (refine' own_def (mine := [(l, PySem.W.listOf #[.int n t] k)]) sub ?k1 ?k2 ?k3 ?k4 ?k5 ?kA ?kF ?kK ?k6 ?k7 ?k8 ?k9 ?kB ?_ ?c2 ?c3 ?c4 ?c5; (case kA => exact rfl); (case kF => exact rfl); (case kK => assumption); (case k1 => k_asm); (case k2 => k_asm); (case k3 => k_asm); (case k4 => k_asm); (case k5 => k_asm); (case k6 => k_is); (case k7 => k_is); (case k8 => ktr_room); (case k9 => exact BindsTo.of_eq rfl); (case c5 => decide); (case kB => exact locs rfl); (case c2 => exact rfl); (case c3 => exact rfl); (case c4 => exact rfl); k_whole; intro g' L' h' FG' F' N' B' X' T' Y'; (try dsimp only); (try k_lift B'); (try k_fold))
  k_steps
  · exfalso; omega
  all_goals (
    rename Fr h₀ L _ m => kF9
    rename News h₀ L _ _ => kN9
    rename Fr g' _ _ _ => F9
    rename News g' _ _ _ => N9
    rw [hor] at kN9 N9
    exact own_ret hret Y' kF9 kN9 F9 N9 ⟨_, _, _, _, rfl, rfl⟩ (sub1 (by k_mem)) (sub1 (by k_mem)) (ne1 (by k_ne)))
end
section
local macro_rules | `(tactic| walk_at "call ref") => `(tactic| (k_here; k_dflt (refine wpAny_call ?_; (refine' code_def ?k1 ?k2 ?k3 ?k4 ?k5 ?kA ?kF ?kK ?k6 ?k7 ?k8 ?k9 ?kB ?_ ?c2 ?c3 ?c4 ?c5; (case kA => exact rfl); (case kF => exact rfl); (case kK => first | exact rfl | assumption); (case k1 => k_asm); (case k2 => k_asm); (case k3 => k_asm); (case k4 => k_asm); (case k5 => k_asm); (case k6 => k_is); (case k7 => k_is); (case k8 => ktr_room); (case k9 => exact BindsTo.of_eq rfl); (case c5 => decide); (case kB => exact locs rfl); (case c2 => exact rfl); (case c3 => exact rfl); (case c4 => exact rfl); k_whole; intro g' L' h' FG' F' N' B' X' T'; (try dsimp only); (try k_lift B'); (try k_fold)))))
local macro_rules | `(tactic| walk_at "call ref") => `(tactic| (k_here; k_dflt (refine' does_use (normal_does _ _ _ _ _ _ _ _ ?hq) ?k1 ?k2 ?k3 ?k4 ?k5 ?kK ?kS ?kd ?ku ?_; (case k1 => k_asm); (case k2 => k_asm); (case k3 => k_asm); (case k4 => k_asm); (case k5 => k_asm); (case kK => first | exact rfl | assumption); (case kS => first | exact sub0 | (refine sub1 ?_; k_mem)); (case kd => ktr_room); (case ku => ktr_units); (case hq => first | assumption | omega); k_whole; intro r9 tl9 h9 tk9 ho9 F9 N9 hn9; obtain ⟨x9, o9, k9, hr9, ht9, hc9⟩ := ho9; subst hr9 ht9; (rcases hc9 with ⟨hq9, hc9⟩ | ⟨hq9, hc9⟩) <;> subst hc9 <;> ((try simp only [List.cons_append, List.nil_append] at N9); (try simp only [List.mem_cons, forall_eq_or_imp, List.not_mem_nil, false_implies, implies_true, and_true, forall_eq] at hn9); (try dsimp only); (try k_fold)))))
local macro_rules | `(tactic| walk_at "exec While Compare cons nil") => `(tactic| (k_here; k_dflt (refine whl_start 100 ?_)))
local macro_rules | `(tactic| walk_at "exec While BoolOp") => `(tactic| (k_here; k_dflt (refine whl_start 100 ?_)))
local macro_rules | `(tactic| walk_at "WhlIf") => `(tactic| (first | (refine WhlIf.yes (decide_eq_true (by omega)) ?_) | (refine WhlIf.no (decide_eq_false (by omega)) ?_)))
local macro_rules | `(tactic| walk_at "pyIter ref") => `(tactic| ((with_reducible show wpAny _ _ (pyIter (Value.ref _)) (fun it s₂ => LoopAtV _ _ _ _ _ _ _ _ _ it s₂) _ _); k_listUnr))
local macro_rules | `(tactic| walk_at "binaryOp FloorDiv int int") => `(tactic| (k_here; (with_reducible refine' fdiv_is ?e1 ?e2 ?e3 ?_); (case e1 => omega); (case e2 => omega); (case e3 => omega)))
local macro_rules | `(tactic| walk_at "binaryOp Mod int int") => `(tactic| (k_here; (with_reducible refine' fmod_is ?e1 ?e2 ?_); (case e1 => omega); (case e2 => omega)))
local macro_rules | `(tactic| walk_at "binaryOp LShift int int") => `(tactic| (k_here; (with_reducible refine' lsh1_is ?e1 ?e2 ?_); (case e1 => omega); (case e2 => omega)))
local macro_rules | `(tactic| walk_at "inplaceOp RShift int int") => `(tactic| (k_here; (with_reducible refine' irsh_is ?e1 ?e2 ?e3 ?_); (case e1 => omega); (case e2 => omega); (case e3 => omega)))
local macro_rules | `(tactic| walk_at "binaryOp BitAnd int int") => `(tactic| (k_here; (with_reducible refine' and_is ?e1 ?_); (case e1 => first | assumption | exact mask_is (by omega) (by omega) (by omega) (by omega))))
local macro_rules | `(tactic| walk_at "inplaceOp BitOr int int") => `(tactic| (k_here; (with_reducible refine' ior_is ?e1 ?_); (case e1 => exact or_zero (by omega) (by omega))))
set_option maxHeartbeats 2000000 in
theorem turned_does (w : World) (s₀ : Shared) (mg mb : Str → Option Value) (l : Addr) (x W : Int) (t tw : Tok) (k : Nat) (h1 : 1 ≤ x) (h2 : x < 32) (hw1 : 5 ≤ W) (hw2 : W ≤ 7) :
    Does PySem.Challenge.rw_xw0106_01.row.prog w (hd.heap_39 w.params) hd.view_39 (looseW hd.view_39 []) (ExcName.means s₀.heap) mg mb 6 128 [.ref l, .int W tw] [(l, PySem.W.listOf #[.int x t] k)] (fun r tl => ∃ y t k, r = .ref y ∧ tl = [(y, PySem.W.listOf #[.int (tn x) t] k)]) := by
  w_top off
  k_fill
  intro dp un gd cn cs a ccd cl outer A₀ base h₀ L m news s Q E B F X N T hk sub hdp hun hret
  have hp := pow_lo hw1 hw2
  have hb := bits_le h1 h2
  have hl := low_is h1 h2
  obtain ⟨y, hy⟩ : ∃ y, y = x - 2 ^ (Builtin.Int.intBits x - 1) := ⟨_, rfl⟩
  have ht : tn x = 2 * y + 1 := by unfold tn; rw [hy]
  have hlow : Builtin.bitAnd ([x].getD (Int.toNat 0) 0) (1 * 2 ^ ((1 - 1) * W + (Builtin.Int.intBits x : Int) - 1).toNat - 1) = y := by
    rw [show ((1 - 1) * W + (Builtin.Int.intBits x : Int) - 1).toNat = Builtin.Int.intBits x - 1 by omega, Int.one_mul, hy]
    exact hl.1
  rw [← hy] at hl
  have hy1 := hl.2.1
  have hy2 := hl.2.2
  clear hl hy
  refine wpAny_call ?_
  k_dflt (refine' own_def (mine := [(l, PySem.W.listOf #[.int x t] k)]) sub ?k1 ?k2 ?k3 ?k4 ?k5 ?kA ?kF ?kK ?k6 ?k7 ?k8 ?k9 ?kB ?_ ?c2 ?c3 ?c4 ?c5; (case kA => exact rfl); (case kF => exact rfl); (case kK => assumption); (case k1 => k_asm); (case k2 => k_asm); (case k3 => k_asm); (case k4 => k_asm); (case k5 => k_asm); (case k6 => k_is); (case k7 => k_is); (case k8 => ktr_room); (case k9 => exact BindsTo.of_eq rfl); (case c5 => decide); (case kB => exact locs rfl); (case c2 => exact rfl); (case c3 => exact rfl); (case c4 => exact rfl); k_whole; intro g' L' h' FG' F' N' B' X' T' Y'; (try dsimp only); (try k_lift B'); (try k_fold))
  k_steps
  all_goals (
    rename Fr h₀ L _ m => kF9
    rename News h₀ L _ _ => kN9
    rename Fr g' _ _ _ => F9
    rename News g' _ _ _ => N9
    first
      | exact own_ret hret Y' kF9 kN9 F9 N9 ⟨_, _, _, rfl, rfl⟩ (sub1 (by k_mem)) (sub1 (by rw [show tn x = 1 by omega]; k_mem)) (ne1 (by k_ne))
      | exact own_ret hret Y' kF9 kN9 F9 N9 ⟨_, _, _, rfl, rfl⟩ (sub1 (by k_mem)) (sub1 (by rw [show tn x = 1 + 2 * y by omega]; k_mem)) (ne1 (by k_ne))
    )
end
section
section
theorem cut_at : ∀ (us : List Value) (k : Nat) (h : k < us.length), kl_cut us k = some (us.take k, us[k], us.drop (k + 1))
  | x :: r, 0, _ => rfl
  | x :: r, k + 1, h => by
    have h' : k < r.length := by simpa using h
    show (match kl_cut r k with | some (p, y, q) => some (x :: p, y, q) | none => none) = _
    rw [cut_at r k h']
    rfl
theorem ints_at {us : List Value} {l : List Int} (hi : IntsAre us l) : ∀ (k : Nat) (h : k < us.length), ∃ t, us[k] = .int (l.getD k 0) t := by
  induction hi with
  | nil => intro k h; exact absurd h (Nat.not_lt_zero k)
  | cons n t r ih =>
    intro k h
    cases k with
    | zero => exact ⟨t, rfl⟩
    | succ k => obtain ⟨t', e⟩ := ih k (by simpa using h); exact ⟨t', e⟩
theorem ints_erase {us : List Value} {l : List Int} (hi : IntsAre us l) : ∀ k : Nat, IntsAre (us.eraseIdx k) (l.eraseIdx k) := by
  induction hi with
  | nil => intro k; exact .nil
  | cons n t r ih =>
    intro k
    cases k with
    | zero => exact r
    | succ k => exact .cons n t (ih k)
theorem pop_ints {prog : Program} {w : World} {A : Around} {E : Value → Shared → Prop} {s : Shared} {h₀ : Heap} {L D : Addr} {m : Str → Option Value} {news news' : List (Addr × Obj)} {n : Nat} {us : List Value} {l : List Int} {i : Int} {u : Tok} {Q : Value → Shared → Prop}
    (F : Fr h₀ L s.heap m) (N : News h₀ L s.heap news) (U : Upd D (PySem.W.listOf us.toArray n) (PySem.W.listOf (us.eraseIdx i.toNat).toArray (n + 1)) news news') (hi : IntsAre us l) (h0 : 0 ≤ i) (h1 : i < (l.length : Int)) (hz : l.length ≤ 1000)
    (h : ∀ h' t, Fr h₀ L h' m → News h₀ L h' news' → IntsAre (us.eraseIdx i.toNat) (l.eraseIdx i.toNat) → Q (.int (l.getD i.toNat 0) t) { s with heap := h' }) : wpAny (model prog w) A (call (.builtin "list.pop") [.ref D, .int i u]) Q E s := by
  have hl := IntsAre.length hi
  have hk : i.toNat < us.length := by omega
  obtain ⟨t, ht⟩ := ints_at hi i.toNat hk
  refine kl_popAt (n := n) (news' := news') (its := us.toArray) (k := i.toNat) (p := us.take i.toNat) (q := us.drop (i.toNat + 1)) (y := us[i.toNat]) F N ?_ (seqIndex_of h0 (by rw [List.size_toArray]; omega)) (cut_at us _ hk) ?_ ?_ fun h' F' N' => ?_
  · have e1 : -(2 ^ 63 : Int) ≤ i := by omega
    have e2 : i < (2 ^ 63 : Int) := by omega
    unfold Builtin.List.listFitsIndex
    rw [decide_eq_true e1, decide_eq_true e2]; rfl
  · rw [← List.eraseIdx_eq_take_drop_succ]; exact U
  · show us.length ≤ _
    rw [PySem.sizeLine_eq]; omega
  · rw [ht]; exact h h' t F' N' (ints_erase hi _)
def Stop (P : Prop) : Prop := P
theorem Stop.here {P : Prop} (h : Stop P) : P := h
def leftF : Nat → List Int → Int → Int → Int
  | 0, r, _, _ => r.getD 0 0
  | k + 1, r, a, st => if 1 < r.length then leftF k (r.eraseIdx ((a + st - 1).fmod r.length).toNat) ((a + st - 1).fmod r.length) st else r.getD 0 0
def lf (n st : Int) : Int := leftF n.toNat (rangeKs 0 n.toNat) 0 st
theorem fm_lo {a b : Int} (h : 1 < b) : 0 ≤ a.fmod b := by
  rw [Int.fmod_eq_emod_of_nonneg _ (by omega)]; exact Int.emod_nonneg _ (by omega)
theorem fm_hi {a b : Int} (h : 1 < b) : a.fmod b < b := by
  rw [Int.fmod_eq_emod_of_nonneg _ (by omega)]; exact Int.emod_lt_of_pos _ (by omega)
theorem left_start {n st : Int} (h1 : 1 ≤ n) (h2 : n ≤ 16) :
    0 ≤ (0 : Int) ∧ 1 ≤ (rangeKs 0 (n - 0).toNat).length ∧ (rangeKs 0 (n - 0).toNat).length ≤ 16 ∧ leftF (rangeKs 0 (n - 0).toNat).length (rangeKs 0 (n - 0).toNat) 0 st = lf n st := by
  rw [Int.sub_zero, rangeKs_length]
  exact ⟨by omega, by omega, by omega, rfl⟩
theorem left_turn {r : List Int} {a st c : Int} (h1 : 1 < (r.length : Int)) (h2 : r.length ≤ 16) (e : leftF r.length r a st = c) :
    0 ≤ (a + st - 1).fmod r.length ∧ 1 ≤ (r.eraseIdx ((a + st - 1).fmod r.length).toNat).length ∧ (r.eraseIdx ((a + st - 1).fmod r.length).toNat).length ≤ 16 ∧
      leftF (r.eraseIdx ((a + st - 1).fmod r.length).toNat).length (r.eraseIdx ((a + st - 1).fmod r.length).toNat) ((a + st - 1).fmod r.length) st = c := by
  have lo := fm_lo (a := a + st - 1) h1
  have hi := fm_hi (a := a + st - 1) h1
  have hl : (r.eraseIdx ((a + st - 1).fmod r.length).toNat).length = r.length - 1 := List.length_eraseIdx_of_lt (by omega)
  rw [hl]
  refine ⟨lo, by omega, by omega, ?_⟩
  obtain ⟨k, hk⟩ : ∃ k, r.length = k + 1 := ⟨r.length - 1, by omega⟩
  have hs : r.length - 1 = k := by omega
  rw [hs]
  rw [show leftF r.length r a st = leftF (k + 1) r a st by rw [hk]] at e
  rw [leftF, if_pos (by omega)] at e
  exact e
theorem left_less {r : List Int} {a : Int} (h1 : 1 < (r.length : Int)) : (r.eraseIdx (a.fmod r.length).toNat).length < r.length := by
  have hi := fm_hi (a := a) h1
  have lo := fm_lo (a := a) h1
  have hl : (r.eraseIdx (a.fmod r.length).toNat).length = r.length - 1 := List.length_eraseIdx_of_lt (by omega)
  omega
theorem left_end {r : List Int} {a st c : Int} (h1 : ¬ 1 < (r.length : Int)) (h2 : 1 ≤ r.length) (e : leftF r.length r a st = c) : r.getD (Int.toNat 0) 0 = c := by
  have hk : r.length = 1 := by omega
  rw [hk, leftF, if_neg (by omega)] at e
  exact e
end
local macro_rules | `(tactic| walk_at "exec While Compare cons nil") => `(tactic| (refine Stop.here ?_))
local macro_rules | `(tactic| walk_at "call builtin:list.pop") => `(tactic| (k_here; (with_reducible show wpAny _ _ (call (Value.builtin _) [Value.ref _, Value.int _ _]) _ _ _); k_dflt (refine' pop_ints ?k1 ?k2 ?kU ?kI ?k0 ?kh ?kz ?_; (case k1 => k_asm); (case k2 => k_asm); (case kI => with_reducible assumption); (case kU => k_upd); (case k0 => first | exact fm_lo (by assumption)); (case kh => exact fm_hi (by assumption)); (case kz => omega); k_whole; intro h' t' F' N' hI')))
set_option maxHeartbeats 400000 in
theorem left_does (w : World) (s₀ : Shared) (mg mb : Str → Option Value) (n st : Int) (t1 t2 : Tok) (h1 : 1 ≤ n) (h2 : n ≤ 16) (hs1 : 2 ≤ st) (hs2 : st ≤ 6) :
    Does PySem.Challenge.rw_xw0106_01.row.prog w (hd.heap_39 w.params) hd.view_39 (looseW hd.view_39 []) (ExcName.means s₀.heap) mg mb 4 121 [.int n t1, .int st t2] [] (fun r tl => tl = [] ∧ ∃ t, r = .int (lf n st) t) := by
  w_top off
  k_fill
  intro dp un gd cn cs a ccd cl outer A₀ base h₀ L m news s Q E B F X N T hk sub hdp hun hret
  refine wpAny_call ?_
  k_dflt (refine' own_def (mine := []) sub ?k1 ?k2 ?k3 ?k4 ?k5 ?kA ?kF ?kK ?k6 ?k7 ?k8 ?k9 ?kB ?_ ?c2 ?c3 ?c4 ?c5; (case kA => exact rfl); (case kF => exact rfl); (case kK => assumption); (case k1 => k_asm); (case k2 => k_asm); (case k3 => k_asm); (case k4 => k_asm); (case k5 => k_asm); (case k6 => k_is); (case k7 => k_is); (case k8 => ktr_room); (case k9 => exact BindsTo.of_eq rfl); (case c5 => decide); (case kB => exact locs rfl); (case c2 => exact rfl); (case c3 => exact rfl); (case c4 => exact rfl); k_whole; intro g' L' h' FG' F' N' B' X' T' Y'; (try dsimp only); (try k_lift B'); (try k_fold))
  k_with "state" => first | exact left_start h1 h2 | exact left_turn (by assumption) (by assumption) (by assumption)
  k_with "measure" => exact left_less (by assumption)
  k_steps
  unfold Stop
  k_while (fun (_ : List Int) (a : Int) (r : List Int) => 0 ≤ a ∧ 1 ≤ r.length ∧ r.length ≤ 16 ∧ leftF r.length r a st = lf n st) (fun (_ : List Int) (_ : Int) (r : List Int) => r.length) "at" "ring"
  k_steps
  rename Fr h₀ L _ m => kF9
  rename News h₀ L _ _ => kN9
  rename Fr g' _ _ _ => F9
  rename News g' _ _ _ => N9
  rw [left_end (by assumption) (by assumption) (by assumption)]
  exact own_ret (tl := []) hret Y' kF9 kN9 F9 N9 ⟨rfl, _, rfl⟩ (fun _ h => absurd h List.not_mem_nil) (fun _ h => absurd h List.not_mem_nil) (fun _ h => absurd h List.not_mem_nil)
end
section
/-- a turn's end: the next state's letters -/
def LEnd {σ : Type} (x : Str) (stored : List Str) (m₀ : Str → Option Value) (Led : Addr → σ → List (Addr × Obj)) (ps : σ → List (Str × Value)) (P : Nat → σ → Prop) (i : Nat) (I : Addr) (m' : Str → Option Value) (news' : List (Addr × Obj)) : Prop :=
  ∃ c' : σ, news' = Led I c' ∧ (∀ p ∈ ps c', m' p.1 = some p.2) ∧ (∀ z, z ≠ x → (∀ p ∈ ps c', z ≠ p.1) → stored.contains z = false → m' z = m₀ z) ∧ P i c'
theorem lend {σ : Type} {x : Str} {stored : List Str} {m₀ : Str → Option Value} {Led : Addr → σ → List (Addr × Obj)} {ps : σ → List (Str × Value)} {P : Nat → σ → Prop} {i : Nat} {I : Addr} {it : Obj} {h₀ : Heap} {L : Addr} {s₁ : Shared} {h' : Heap} {tk : Nat} {m' : Str → Option Value} {all : List (Addr × Obj)} (c' : σ)
    (F : Fr h₀ L h' m') (N : News h₀ L h' all) (hI : (I, it) ∈ all) (sub : ∀ p ∈ Led I c', p ∈ all) (off : ∀ p ∈ Led I c', p.1 ≠ I)
    (k1 : ∀ p ∈ ps c', m' p.1 = some p.2) (k2 : ∀ z, z ≠ x → (∀ p ∈ ps c', z ≠ p.1) → stored.contains z = false → m' z = m₀ z) (hp : P i c') :
    UnrEnd h₀ L s₁ I it (fun m' n' => LEnd x stored m₀ Led ps P i I m' n') { s₁ with heap := h', toks := tk } :=
  UnrEnd.intro F N (Led I c') (fun p hp => by
    rcases List.mem_cons.mp hp with rfl | hp
    · exact hI
    · exact sub p hp) off ⟨c', rfl, k1, k2, hp⟩

section
variable {prog : Program} {w : World} {A : Around} {E : Value → Shared → Prop} {s : Shared} {env : Env} {h₀ : Heap} {x : Str} {body : List Stmt} {Q : Flow → Shared → Prop}
theorem loopR {σ : Type} {r : Addr} {a₀ b₀ : Int} {t₀ u₀ v₀ : Tok} {m₀ : Str → Option Value} {news : List (Addr × Obj)} (n : Nat) (Led : σ → List (Addr × Obj)) (ps : σ → List (Str × Value)) (stored : List Str) (P : Nat → σ → Prop) (c₀ : σ)
    (hh : A.handled = none) (hr : IsRange s.heap r a₀ b₀ 1 t₀ u₀ v₀) (hsmall : Builtin.Range.small a₀ b₀ 1 = true) (hn : Builtin.Range.rangeSize a₀ b₀ 1 = (n : Int))
    (F : Fr h₀ env.locals s.heap m₀) (N : News h₀ env.locals s.heap news) (hsub : ∀ p ∈ Led c₀, p ∈ news) (k0 : ∀ p ∈ ps c₀, m₀ p.1 = some p.2) (hp : P 0 c₀)
    (turn : ∀ (I : Addr) (i : Nat) (c : σ) (u : Str → Option Value) (t : Tok) (h : Heap) (tk : Nat), (∀ p ∈ news, p.1 < I) → i < n → P i c →
      Fr h₀ env.locals h (fun y => if y = x then some (.int (a₀ + (i : Int)) t) else kstB (fun z => if stored.contains z then u z else m₀ z) (ps c) y) →
      News h₀ env.locals h ((I, itR (a₀ + ((i + 1 : Nat) : Int)) ((n : Int) - ((i + 1 : Nat) : Int))) :: Led c) →
      wpAny (model prog w) A (execs body env) (UnrPost h₀ env.locals { s with heap := h, toks := tk } I (itR (a₀ + ((i + 1 : Nat) : Int)) ((n : Int) - ((i + 1 : Nat) : Int))) (fun m' n' => LEnd x stored m₀ (fun _ => Led) ps P (i + 1) I m' n') Q) E { s with heap := h, toks := tk })
    (done : ∀ (c : σ) (u : Str → Option Value) (h : Heap) (tk : Nat), P n c → Fr h₀ env.locals h (fun y => if y = x then u y else kstB (fun z => if stored.contains z then u z else m₀ z) (ps c) y) → News h₀ env.locals h (Led c) → Q .next { s with heap := h, toks := tk }) :
    wpAny (model prog w) A (pyIter (.ref r)) (fun it s₂ => LoopAtV prog w A h₀ env x body Q E it s₂) E s := by
  have NL : News h₀ env.locals s.heap (Led c₀ ++ news) := fun p hp => by
    rcases List.mem_append.mp hp with hp | hp
    · exact N p (hsub p hp)
    · exact N p hp
  refine iter_rangeUnr (n := n) (news := Led c₀ ++ news) hh hr hsmall hn F NL fun I hI => ?_
  have hI' : ∀ p ∈ news, p.1 < I := fun p hp => hI p (List.mem_append_right _ hp)
  have key : ∀ (k i : Nat) (m : Str → Option Value) (nw : List (Addr × Obj)), k + i = n → (∃ c, (∀ p ∈ Led c, p ∈ nw) ∧ (∀ p ∈ ps c, m p.1 = some p.2) ∧ (∀ z, z ≠ x → (∀ p ∈ ps c, z ≠ p.1) → stored.contains z = false → m z = m₀ z) ∧ P i c) →
      RangeRest prog w A E h₀ env x body Q s I a₀ n k i m nw := by
    intro k
    induction k with
    | zero =>
      rintro i m nw hk ⟨c, hl, k1, k2, hp⟩
      have hi : i = n := by omega
      subst hi
      exact fun h tk F N => done c m h tk hp (kst_frOut k1 k2 F) (fun p hp => N p (hl p hp))
    | succ k ih =>
      rintro i m nw hk ⟨c, hl, k1, k2, hp⟩
      refine RangeRest.succ fun t h tk F N => ?_
      refine wpAny_mono (turn I i c m t h tk hI' (by omega) hp (kst_fr k1 k2 F) (fun p hp => N p ?_)) (fun f s₂ q => ?_) fun _ _ e => e
      · rcases List.mem_cons.mp hp with rfl | hp
        · exact List.mem_cons_self ..
        · exact List.mem_cons_of_mem _ (hl p hp)
      · have fin : UnrEnd h₀ env.locals { s with heap := h, toks := tk } I (itR (a₀ + ((i + 1 : Nat) : Int)) ((n : Int) - ((i + 1 : Nat) : Int))) (fun m' n' => LEnd x stored m₀ (fun _ => Led) ps P (i + 1) I m' n') s₂ →
            UnrEnd h₀ env.locals { s with heap := h, toks := tk } I (itR (a₀ + ((i + 1 : Nat) : Int)) ((n : Int) - ((i + 1 : Nat) : Int))) (RangeRest prog w A E h₀ env x body Q s I a₀ n k (i + 1)) s₂ := by
          rintro ⟨h', tk', m', news', e, F', N', ho, c', rfl, j1, j2, jp⟩
          exact ⟨h', tk', m', Led c', e, F', N', ho, ih (i + 1) m' (Led c') (by omega) ⟨c', fun _ h => h, j1, j2, jp⟩⟩
        cases f with
        | ret v => exact q
        | brk => exact q
        | next => exact fin q
        | cont => exact fin q
  exact key n 0 m₀ _ (by omega) ⟨c₀, fun p hp => List.mem_append_left _ hp, k0, fun _ _ _ _ => rfl, hp⟩
theorem mod_any {a b : Int} {t u : Tok} {Q : Value → Shared → Prop} (hb : 0 < b) (h : ∀ r, 0 ≤ r → r < b → Q (.int r s.toks) { s with toks := s.toks + 1 }) : wpAny (model prog w) A (binaryOp .Mod (.int a t) (.int b u)) Q E s :=
  mod_int' (by omega) (h _ (by rw [Int.fmod_eq_emod_of_nonneg _ (by omega)]; exact Int.emod_nonneg _ (by omega)) (by rw [Int.fmod_eq_emod_of_nonneg _ (by omega)]; exact Int.emod_lt_of_pos _ hb))
end
theorem sub2 {p q : Addr × Obj} {news : List (Addr × Obj)} (h1 : p ∈ news) (h2 : q ∈ news) : ∀ z ∈ [p, q], z ∈ news := fun z hz => by
  rcases List.mem_cons.mp hz with rfl | hz
  · exact h1
  · rw [List.mem_singleton.mp hz]; exact h2
theorem off2 {p q : Addr × Obj} {I : Addr} (h1 : p.1 ≠ I) (h2 : q.1 ≠ I) : ∀ z ∈ [p, q], z.1 ≠ I := fun z hz => by
  rcases List.mem_cons.mp hz with rfl | hz
  · exact h1
  · rw [List.mem_singleton.mp hz]; exact h2
/-- who goes out last, by going round from size to size -/
def hj (st : Int) : Nat → Int
  | 0 => 0
  | k + 1 => (hj st k + st).fmod (1 + (k : Int))
def itn : Nat → Int → Int
  | 0, x => x
  | k + 1, x => tn (itn k x)
theorem tab_hj (i : Nat) (st : Int) (hi : i < 16) (h1 : 2 ≤ st) (h2 : st ≤ 6) : 0 ≤ hj st i ∧ hj st i ≤ 15 ∧ (hj st i + st).fmod (1 + (i : Int)) = lf (1 + (i : Int)) st := by
  have key : ∀ (i : Fin 16) (s : Fin 5), 0 ≤ hj (2 + (s.val : Int)) i.val ∧ hj (2 + (s.val : Int)) i.val ≤ 15 ∧ (hj (2 + (s.val : Int)) i.val + (2 + (s.val : Int))).fmod (1 + (i.val : Int)) = lf (1 + (i.val : Int)) (2 + (s.val : Int)) := by decide +kernel
  have := key ⟨i, hi⟩ ⟨(st - 2).toNat, by omega⟩
  rwa [show (2 + (((st - 2).toNat : Nat) : Int)) = st by omega] at this
theorem tab_tn (i : Nat) (hi : i < 16) : tn (1 + (i : Int)) = lf (1 + (i : Int)) 2 + 1 ∧ itn 5 (1 + (i : Int)) = 2 ^ (pc 6 (1 + (i : Int))).toNat - 1 ∧ 0 ≤ pc 6 (1 + (i : Int)) ∧ pc 6 (1 + (i : Int)) ≤ 5 := by
  have key : ∀ (i : Fin 16), tn (1 + (i.val : Int)) = lf (1 + (i.val : Int)) 2 + 1 ∧ itn 5 (1 + (i.val : Int)) = 2 ^ (pc 6 (1 + (i.val : Int))).toNat - 1 ∧ 0 ≤ pc 6 (1 + (i.val : Int)) ∧ pc 6 (1 + (i.val : Int)) ≤ 5 := by decide +kernel
  exact key ⟨i, hi⟩
theorem tn_in {x : Int} (h1 : 1 ≤ x) (h2 : x < 32) : 1 ≤ tn x ∧ tn x < 32 := by
  have := low_is h1 h2
  unfold tn
  omega
end
section
local macro_rules | `(tactic| walk_at "binaryOp Mod int int") => `(tactic| (k_here; (with_reducible refine' mod_any ?e1 ?_); (case e1 => first | decide | assumption); intro r9 hr9 hs9))
set_option maxHeartbeats 4000000 in
theorem next_does (w : World) (s₀ : Shared) (mg mb : Str → Option Value) (y d : Addr) (c many : Int) (tc tm : Tok) (k : Nat) (ys : List Value) (ns : List Int) (hI : IntsAre ys ns) (hn : ns.length ≤ 3) (hc1 : 0 ≤ c) (hc2 : c ≤ 3) (hm1 : 0 < many) (hm2 : many ≤ 8) (hyd : @Ne Nat y d) :
    ∀ (dp un : Nat) (gd : Option (List Code)) (cn : Str) (cs : Scope) (a : Addr) (ccd : Value) (cl : List (Str × Addr)) (outer : List Env) (A₀ : Around) (base h₀ : Heap) (L : Addr) (m : Str → Option Value) (news : List (Addr × Obj)) (s : Shared) (Q E : Value → Shared → Prop),
      Below A₀ base outer h₀ → Fr h₀ L s.heap m → (hd.heap_39 w.params).In h₀ → News h₀ L s.heap news → Top hd.view_39 (looseW hd.view_39 []) (ExcName.means s₀.heap) mg mb h₀ → cs.kind = .function → (∀ q ∈ [(y, PySem.W.listOf #[.int c tc, .ref d] k), (d, LCg.lst ys)], q ∈ news) → dp + 4 < recursionLimit → un + 32 < cLine →
      (∀ r t t' k' h' tk', 0 ≤ r → r < many → Fr h₀ L h' m → News h₀ L h' [(y, PySem.W.listOf #[.int (c + 1) t', .ref d] k'), (d, LCg.lst ys)] → Q (.int r t) { s with heap := h', toks := tk' }) →
      wpAny (model PySem.Challenge.rw_xw0106_01.row.prog w) (ktrTop dp un gd cn cs L a ccd cl outer) (call (.ref 100) [.ref y, .int many tm]) Q E s := by
  w_top off
  k_fill
  intro dp un gd cn cs a ccd cl outer A₀ base h₀ L m news s Q E B F X N0 T hk sub hdp hun hret
  have N : News h₀ L s.heap [(y, PySem.W.listOf #[.int c tc, .ref d] k), (d, LCg.lst ys)] := fun q hq => N0 q (sub q hq)
  clear N0 sub
  have hl := IntsAre.length hI
  refine wpAny_call ?_
  k_dflt (refine' code_def ?k1 ?k2 ?k3 ?k4 ?k5 ?kA ?kF ?kK ?k6 ?k7 ?k8 ?k9 ?kB ?_ ?c2 ?c3 ?c4 ?c5; (case kA => exact rfl); (case kF => exact rfl); (case kK => assumption); (case k1 => k_asm); (case k2 => k_asm); (case k3 => k_asm); (case k4 => k_asm); (case k5 => k_asm); (case k6 => k_is); (case k7 => k_is); (case k8 => ktr_room); (case k9 => exact BindsTo.of_eq rfl); (case c5 => decide); (case kB => exact locs rfl); (case c2 => exact rfl); (case c3 => exact rfl); (case c4 => exact rfl); k_whole; intro g' L' h' FG' F' N' B' X' T'; (try dsimp only); (try k_lift B'); (try k_fold))
  k_steps
  all_goals (
    rename Fr h₀ L _ m => kF9
    rename News h₀ L _ _ => kN9
    exact hret _ _ _ _ _ _ (by assumption) (by assumption) kF9 kN9)
end
section
local macro_rules | `(tactic| walk_at "call ref") => `(tactic| (k_here; k_dflt (refine' does_use (limbs_does _ _ _ _ _ _ _ _ ?h1 ?h2 ?hw1 ?hw2) ?k1 ?k2 ?k3 ?k4 ?k5 ?kK ?kS ?kd ?ku ?_; (case k1 => k_asm); (case k2 => k_asm); (case k3 => k_asm); (case k4 => k_asm); (case k5 => k_asm); (case kK => first | exact rfl | assumption); (case kS => first | exact sub0 | (refine sub1 ?_; k_mem)); (case kd => ktr_room); (case ku => ktr_units); (case h1 => first | assumption | omega); (case h2 => first | assumption | omega); (case hw1 => first | assumption | omega); (case hw2 => first | assumption | omega); k_whole; intro r9 tl9 h9 tk9 ho9 F9 N9 hn9; obtain ⟨x9, t9, k9, hr9, ht9⟩ := ho9; subst hr9 ht9; skip <;> ((try simp only [List.cons_append, List.nil_append] at N9); (try simp only [List.mem_cons, forall_eq_or_imp, List.not_mem_nil, false_implies, implies_true, and_true, forall_eq] at hn9); (try dsimp only); (try k_fold)))))
local macro_rules | `(tactic| walk_at "call ref") => `(tactic| (k_here; k_dflt (refine' does_use (told_does _ _ _ _ _ _ _ _ _ _ ?h1 ?h2 ?hw1 ?hw2) ?k1 ?k2 ?k3 ?k4 ?k5 ?kK ?kS ?kd ?ku ?_; (case k1 => k_asm); (case k2 => k_asm); (case k3 => k_asm); (case k4 => k_asm); (case k5 => k_asm); (case kK => first | exact rfl | assumption); (case kS => first | exact sub0 | (refine sub1 ?_; k_mem)); (case kd => ktr_room); (case ku => ktr_units); (case h1 => first | assumption | omega); (case h2 => first | assumption | omega); (case hw1 => first | assumption | omega); (case hw2 => first | assumption | omega); k_whole; intro r9 tl9 h9 tk9 ho9 F9 N9 hn9; obtain ⟨ht9, t9, hr9⟩ := ho9; subst hr9 ht9; skip <;> ((try simp only [List.cons_append, List.nil_append] at N9); (try simp only [List.mem_cons, forall_eq_or_imp, List.not_mem_nil, false_implies, implies_true, and_true, forall_eq] at hn9); (try dsimp only); (try k_fold)))))
local macro_rules | `(tactic| walk_at "call ref") => `(tactic| (k_here; k_dflt (refine' does_use (turned_does _ _ _ _ _ _ _ _ _ _ ?h1 ?h2 ?hw1 ?hw2) ?k1 ?k2 ?k3 ?k4 ?k5 ?kK ?kS ?kd ?ku ?_; (case k1 => k_asm); (case k2 => k_asm); (case k3 => k_asm); (case k4 => k_asm); (case k5 => k_asm); (case kK => first | exact rfl | assumption); (case kS => first | exact sub0 | (refine sub1 ?_; k_mem)); (case kd => ktr_room); (case ku => ktr_units); (case h1 => first | assumption | omega); (case h2 => first | assumption | omega); (case hw1 => first | assumption | omega); (case hw2 => first | assumption | omega); k_whole; intro r9 tl9 h9 tk9 ho9 F9 N9 hn9; obtain ⟨y9, t9, k9, hr9, ht9⟩ := ho9; subst hr9 ht9; skip <;> ((try simp only [List.cons_append, List.nil_append] at N9); (try simp only [List.mem_cons, forall_eq_or_imp, List.not_mem_nil, false_implies, implies_true, and_true, forall_eq] at hn9); (try dsimp only); (try k_fold)))))
local macro_rules | `(tactic| walk_at "call ref") => `(tactic| (k_here; k_dflt (refine' does_use (divrem_does _ _ _ _ _ _ _ _ _ _ _ _ ?h1 ?h2 ?hz1 ?hz2 ?hw1 ?hw2) ?k1 ?k2 ?k3 ?k4 ?k5 ?kK ?kS ?kd ?ku ?_; (case k1 => k_asm); (case k2 => k_asm); (case k3 => k_asm); (case k4 => k_asm); (case k5 => k_asm); (case kK => first | exact rfl | assumption); (case kS => first | exact sub0 | (refine sub1 ?_; k_mem)); (case kd => ktr_room); (case ku => ktr_units); (case h1 => first | assumption | omega); (case h2 => first | assumption | omega); (case hz1 => first | assumption | omega); (case hz2 => first | assumption | omega); (case hw1 => first | assumption | omega); (case hw2 => first | assumption | omega); k_whole; intro r9 tl9 h9 tk9 ho9 F9 N9 hn9; obtain ⟨x9, v9, t9, k9, hr9, ht9⟩ := ho9; subst hr9 ht9; skip <;> ((try simp only [List.cons_append, List.nil_append] at N9); (try simp only [List.mem_cons, forall_eq_or_imp, List.not_mem_nil, false_implies, implies_true, and_true, forall_eq] at hn9); (try dsimp only); (try k_fold)))))
local macro_rules | `(tactic| walk_at "call ref") => `(tactic| (k_here; k_dflt (refine' does_use (left_does _ _ _ _ _ _ _ _ ?h1 ?h2 ?hs1 ?hs2) ?k1 ?k2 ?k3 ?k4 ?k5 ?kK ?kS ?kd ?ku ?_; (case k1 => k_asm); (case k2 => k_asm); (case k3 => k_asm); (case k4 => k_asm); (case k5 => k_asm); (case kK => first | exact rfl | assumption); (case kS => first | exact sub0 | (refine sub1 ?_; k_mem)); (case kd => ktr_room); (case ku => ktr_units); (case h1 => first | assumption | omega); (case h2 => first | assumption | omega); (case hs1 => first | assumption | omega); (case hs2 => first | assumption | omega); k_whole; intro r9 tl9 h9 tk9 ho9 F9 N9 hn9; obtain ⟨ht9, t9, hr9⟩ := ho9; subst hr9 ht9; skip <;> ((try simp only [List.cons_append, List.nil_append] at N9); (try simp only [List.mem_cons, forall_eq_or_imp, List.not_mem_nil, false_implies, implies_true, and_true, forall_eq] at hn9); (try dsimp only); (try k_fold)))))
local macro_rules | `(tactic| walk_at "call ref") => `(tactic| (k_here; k_dflt (refine' does_use (ones_does _ _ _ _ _ _ _ _ ?h1 ?h2) ?k1 ?k2 ?k3 ?k4 ?k5 ?kK ?kS ?kd ?ku ?_; (case k1 => k_asm); (case k2 => k_asm); (case k3 => k_asm); (case k4 => k_asm); (case k5 => k_asm); (case kK => first | exact rfl | assumption); (case kS => first | exact sub0 | (refine sub1 ?_; k_mem)); (case kd => ktr_room); (case ku => ktr_units); (case h1 => first | assumption | omega); (case h2 => first | assumption | omega); k_whole; intro r9 tl9 h9 tk9 ho9 F9 N9 hn9; obtain ⟨ht9, t9, hr9⟩ := ho9; subst hr9 ht9; skip <;> ((try simp only [List.cons_append, List.nil_append] at N9); (try simp only [List.mem_cons, forall_eq_or_imp, List.not_mem_nil, false_implies, implies_true, and_true, forall_eq] at hn9); (try dsimp only); (try k_fold)))))
local macro_rules | `(tactic| walk_at "call ref") => `(tactic| (k_here; k_dflt (refine' next_does _ _ _ _ _ _ _ _ _ _ _ _ _ ?hI ?hn ?hc1 ?hc2 ?hm1 ?hm2 ?hyd _ _ _ _ _ _ _ _ _ _ _ _ _ _ _ _ _ _ ?k1 ?k2 ?k3 ?k4 ?k5 ?kK ?kS ?kd ?ku ?_; (case k1 => k_asm); (case k2 => k_asm); (case k3 => k_asm); (case k4 => k_asm); (case k5 => k_asm); (case kK => first | exact rfl | assumption); (case kS => (refine sub2 ?q1 ?q2; (case q1 => k_mem); (case q2 => k_mem))); (case hI => assumption); (case hn => (rw [List.length_map, List.length_take]; exact Nat.min_le_left _ _)); (case hc1 => decide); (case hc2 => decide); (case hm1 => decide); (case hm2 => decide); (case hyd => omega); (case kd => ktr_room); (case ku => ktr_units); k_whole; intro r9 t9 t8 k9 h9 tk9 hr9 hs9 F9 N9; (try dsimp only); (try k_fold))))
local macro_rules | `(tactic| walk_at "pyIter ref") => `(tactic| (refine Stop.here ?_))
local macro_rules | `(tactic| walk_at "UnrEnd") => `(tactic| (refine Stop.here ?_))
local macro_rules | `(tactic| walk_at "binaryOp Mod int int") => `(tactic| (k_here; (with_reducible refine' mod_any ?e1 ?_); (case e1 => decide); intro r9 hr9 hs9))
abbrev lhsOf {a b : Int} (_ : a < b) : Int := a
set_option maxHeartbeats 4000000 in
theorem t1 : PySem.Challenge.rw_xw0106_01.Holds := hd (by
  k_go0
  all_goals (try k_fold)
  k_steps
  all_goals (
    unfold Stop
    rename (_ < (5 : Int)) => hs5
    rename (_ < (8 : Int)) => hs8
    rename (_ < (3 : Int)) => hs3
    obtain ⟨zs, e⟩ : ∃ z : Int, z = lhsOf hs5 := ⟨_, rfl⟩
    dsimp only [lhsOf] at e
    subst e
    obtain ⟨zm, e⟩ : ∃ z : Int, z = lhsOf hs8 := ⟨_, rfl⟩
    dsimp only [lhsOf] at e
    subst e
    obtain ⟨zw, e⟩ : ∃ z : Int, z = lhsOf hs3 := ⟨_, rfl⟩
    dsimp only [lhsOf] at e
    subst e
    have hz5 : 0 ≤ zs := by assumption
    have hz8 : 0 ≤ zm := by assumption
    have hz3 : 0 ≤ zw := by assumption
    rename IsRange _ _ _ _ _ _ _ _ => rgX
    rename Fr _ _ _ _ => kF
    rename News _ _ _ _ => kN
    with_unfolding_all refine loopR (σ := Int × Tok) (9 + zm + 1 - 1).toNat (fun _ => []) (fun c => [(Str.ofString "here", Value.int c.1 c.2)]) [Str.ofString "row", Str.ofString "turn"] (fun i c => c.1 = hj (2 + zs) i) (0, _) (by rfl) rgX (small_one (by omega) (by omega) (by omega) (by omega)) (rangeSize_nat _ _) kF kN (fun _ h => absurd h List.not_mem_nil) (by kst_all) rfl ?_ ?_
    · (
      intro I i c u t h tk hI hi hP F N
      obtain ⟨v, tv⟩ := c
      dsimp only at hP F N
      subst hP
      have hi16 : i < 16 := by omega
      have hT := tab_hj i (2 + zs) hi16 (by omega) (by omega)
      have hU := tab_tn i hi16
      have hV := tn_in (x := 1 + (i : Int)) (by omega) (by omega)
      (try k_fold)
      k_steps
      unfold Stop
      rename IsRange _ _ _ _ _ _ _ _ => rgY
      rename Fr _ _ _ _ => kF
      rename News _ _ _ _ => kN
      with_unfolding_all refine loopR (σ := Addr × Int × Tok × Nat) 5 (fun c => [(I, itR (1 + ((i + 1 : Nat) : Int)) (((9 + zm + 1 - 1).toNat : Int) - ((i + 1 : Nat) : Int))), (c.1, PySem.W.listOf #[Value.int c.2.1 c.2.2.1] c.2.2.2)]) (fun c => [(Str.ofString "row", Value.ref c.1)]) [] (fun k c => c.2.1 = itn k (1 + (i : Int)) ∧ 1 ≤ c.2.1 ∧ c.2.1 < 32) (_, 1 + (i : Int), _, _) (by rfl) rgY (by decide) (by decide) kF kN (sub2 (by k_mem) (by k_mem)) (by kst_all) ⟨rfl, (by show (1 : Int) ≤ 1 + (i : Int); omega), (by show 1 + (i : Int) < 32; omega)⟩ ?_ ?_
      · intro J k c u1 t1 h1 tk1 hJ hk hP F1 N1
        obtain ⟨y, v, tv, kv⟩ := c
        dsimp only at hP F1 N1
        obtain ⟨hv, hv1, hv2⟩ := hP
        have hIJ : @LT.lt Nat _ I J := hJ (I, itR (1 + ((i + 1 : Nat) : Int)) (((9 + zm + 1 - 1).toNat : Int) - ((i + 1 : Nat) : Int))) (by k_mem)
        clear hJ
        have hVV := tn_in hv1 hv2
        (try k_fold)
        k_steps
        unfold Stop
        rename Fr _ _ _ _ => kF2
        rename News _ _ _ _ => kN2
        refine lend (_, tn v, _, _) kF2 kN2 (by k_mem) (sub2 (by k_mem) (by k_mem)) (off2 (by k_ne) (by k_ne)) (by kst_all) (by intro z h1 h2 h3; (simp only [List.forall_mem_cons, List.not_mem_nil, false_implies, implies_true, and_true, ne_eq] at h2); simp [kstB, h1, h2]) ⟨by show tn v = itn (k + 1) (1 + (i : Int)); rw [hv]; rfl, hVV.1, hVV.2⟩
      · intro c u1 h1 tk1 hP F1 N1
        obtain ⟨y, v, tv, kv⟩ := c
        dsimp only at hP F1 N1
        obtain ⟨hv, hv1, hv2⟩ := hP
        (try dsimp only)
        (try k_fold)
        k_steps
        unfold Stop
        rename Fr _ _ _ _ => kF2
        rename News _ _ _ _ => kN2
        refine lend (_, _) kF2 kN2 (by k_mem) (fun _ h => absurd h List.not_mem_nil) (fun _ h => absurd h List.not_mem_nil) (by kst_all) (by intro z h1 h2 h3; (simp only [List.forall_mem_cons, List.not_mem_nil, false_implies, implies_true, and_true, ne_eq] at h2); (simp only [List.contains_cons, List.contains_nil, Bool.or_false, Bool.or_eq_false_iff, beq_eq_false_iff_ne, ne_eq] at h3); simp [kstB, h1, h2, h3]) rfl)
    · (
      intro c u h tk hP F N
      (try dsimp only)
      k_steps)))
end
end Mine
theorem PySem.Challenge.cw_xw0106_01_holds : PySem.Challenge.rw_xw0106_01.Holds :=
  Mine.t1
