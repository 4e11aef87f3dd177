import PyProof.Rows.All
import Wide.All
import OpenK.AllK
import Wide.FinOn
import PySem.Challenge.RW_sa0364_01
open PySem PySem.W PyProof.Rows PySem.Spec PySem.Calls
set_option Elab.async false
set_option maxRecDepth 100000
namespace Mine
set_option maxHeartbeats 8000000 in
open_top hd for PySem.Challenge.rw_sa0364_01

local macro_rules | `(tactic| walk_at $s:str) => `(tactic| first | k_extra $s | fail)
local macro_rules | `(tactic| kc_close) => `(tactic| first | walk_at "mine close" | fail)
local macro_rules | `(tactic| lcg_off) => `(tactic| first | walk_at "mine off" | fail)
theorem part_P01_Base : True := by
  w_top off
  trivial
noncomputable abbrev PR : Program := PySem.Challenge.rw_sa0364_01.row.prog
noncomputable abbrev LO : List Str := looseW hd.view_39
      [Str.ofString "SIGN_BIT", Str.ofString "HIDDEN_BIT", Str.ofString "NEG_ZERO", Str.ofString "INF",
        Str.ofString "NAN"]
/- what a call of the def at f gives back: one plain value, the ledger as it was -/
abbrev Ret (h₀ : Heap) (L : Addr) (m : Str → Option Value) (news : List (Addr × Obj)) (s : Shared) (Q : Value → Shared → Prop) (R : Tok → Value) : Prop :=
  ∀ (t : Tok) (h' : Heap) (tk' : Nat), Fr h₀ L h' m → News h₀ L h' news → Q (R t) { s with heap := h', toks := tk' }
/- the same for a def that gives a tuple: one new object on the ledger -/
abbrev RetT (h₀ : Heap) (L : Addr) (m : Str → Option Value) (news : List (Addr × Obj)) (s : Shared) (Q : Value → Shared → Prop) (R : Tok → Tok → Tok → Array Value) : Prop :=
  ∀ (D : Addr) (t1 t2 t3 : Tok) (h' : Heap) (tk' : Nat), Fr h₀ L h' m → News h₀ L h' ((D, { cls := .type "tuple", data := .seq (R t1 t2 t3) }) :: news) → Q (.ref D) { s with heap := h', toks := tk' }
abbrev Claim0 (w : World) (mean : ExcName → Option Value) (mg mb : Str → Option Value) (f : Addr) (d : Nat) (news : List (Addr × Obj)) (vs : List Value)
    (RR : Heap → Addr → (Str → Option Value) → Shared → (Value → Shared → Prop) → Prop) : Prop :=
  ∀ (dp un : Nat) (gd : Option (List Code)) (cn : Str) (cs : Scope) (a : Addr) (ccd : Value) (cl : List (Str × Addr)) (outer : List Env) (A₀ : Around) (base h₀ : Heap) (L : Addr) (m : Str → Option Value) (s : Shared) (Q E : Value → Shared → Prop),
    Below A₀ base outer h₀ → Fr h₀ L s.heap m → (hd.heap_39 w.params).In h₀ → News h₀ L s.heap news → Top hd.view_39 LO mean mg mb h₀ → cs.kind = .function →
    dp + d < recursionLimit → un + 8 * d < cLine → RR h₀ L m s Q →
      wpAny (model PR w) (ktrTop dp un gd cn cs L a ccd cl outer) (call (.ref f) vs) Q E s
abbrev Claim (w : World) (mean : ExcName → Option Value) (mg mb : Str → Option Value) (f : Addr) (d : Nat) (news : List (Addr × Obj)) (vs : List Value) (R : Tok → Value) : Prop :=
  Claim0 w mean mg mb f d news vs (fun h₀ L m s Q => Ret h₀ L m news s Q R)
abbrev ClaimT (w : World) (mean : ExcName → Option Value) (mg mb : Str → Option Value) (f : Addr) (d : Nat) (news : List (Addr × Obj)) (vs : List Value) (R : Tok → Tok → Tok → Array Value) : Prop :=
  Claim0 w mean mg mb f d news vs (fun h₀ L m s Q => RetT h₀ L m news s Q R)

/- the caller's ledger stands wherever the callee's ground stands -/
def Carry (g h₀ : Heap) (L : Addr) (news : List (Addr × Obj)) : Prop := ∀ L' h' m', Fr g L' h' m' → News h₀ L h' news

theorem enter0 {prog : Program} {w : World} {A A₀ : Around} {s : Shared} {base h₀ : Heap} {outer : List Env} {L : Addr} {m mg mb : Str → Option Value} {env : Env} {news : List (Addr × Obj)} {K : Frag} {p : Program} {loose : List Str} {mean : ExcName → Option Value}
    {R : Result → Shared → Prop} {name qual : Str} {params : Arguments} {body : List Stmt} {scope : Scope} {dV kV doc pm cdv ct oc : Value} {an od : Option Addr} {osl : Array (Option Value)} {f : Addr} {args : Args} {binds : List (Str × Value)}
    (B : Below A₀ base outer h₀) (F : Fr h₀ L s.heap m) (X₀ : K.In h₀) (N : News h₀ L s.heap news) (T : Top p loose mean mg mb h₀) (hA : A.frames = some (env :: outer)) (hf : env.frame = some L) (hke : env.scope.kind = .function)
    (ho : K.lookup f = some ⟨oc, od, .func (fnOf name qual params body scope dV kV doc pm an cdv ct), osl⟩) (hcd : codeIn K cdv qual = true) (hroom : A.depth < recursionLimit)
    (hbind : BindsTo s (fnOf name qual params body scope dV kV doc pm an cdv ct) args binds) (hloc : ∀ y ∈ binds, scope.names.lookup y.1 = some .local)
    (h : ∀ g L' h₁, Carry g h₀ L news → Fr h₀ L g m → Fr g L' h₁ (fun y => binds.reverse.lookup y) → News g L' h₁ [] → Below A base (env :: outer) g → K.In g → Top p loose mean mg mb g →
      wpAny (model prog w) (A.deeper (envOf qual scope L' f cdv)) (execs body (envOf qual scope L' f cdv))
        (fun fl s' => LeaveK h₀ L m g R (match fl with | .ret v => v | _ => .none) s')
        (fun e s' => wpAny (model prog w) (A.deeper (envOf qual scope L' f cdv)) (leaving (envOf qual scope L' f cdv) e) (fun _ s'' => R (.error e) s'') (fun e' s'' => R (.error e') s'') s')
        { s with heap := h₁, toks := s.toks + binds.length })
    (hco : scope.isCoroutine = false) (hgen : scope.isGenerator = false) (hk : scope.kind = .function)
    (hcell : ∀ x ∈ scope.names, x.2 ≠ .cell) : codeAny (model prog w) A (.call (.ref f) args) R s := by
  obtain ⟨FG, BG, st, lv⟩ := groundX (R := R) (news := []) B F News.nil hA hf hke
  refine codeAny_call_def (fd := fnOf name qual params body scope dV kV doc pm an cdv ct) (body := body) (binds := binds) hroom ((X₀.keeps F.keep) _ _ ho) rfl (T.nolimit.keeps F.keep) (codeRec_of (X₀.keeps F.keep) hcd) rfl hbind hcell hloc (fun h₁ hns hk₁ => ?_) hco hgen hk
  refine wpAny_mono (h s.heap s.heap.objs.size h₁ (fun L' h' m' F' q hq => ⟨F'.keep _ _ (N q hq).1, (N q hq).2⟩) FG ⟨hns, fun b o e => hk₁ b o e, Nat.le_refl _⟩ News.nil BG (X₀.keeps st) (T.keeps st)) (fun fl s' hl => lv _ _ hl) fun _ _ y => y
section
variable {h₀ h' g : Heap} {L L' : Addr} {m m' : Str → Option Value} {news news' : List (Addr × Obj)} {s : Shared} {Q : Value → Shared → Prop} {t : Tok} {tk' : Nat}
theorem end_int {x y : Int}
    (hret : Ret h₀ L m news s Q (fun t => .int x t)) (C : Carry g h₀ L news) (F' : Fr g L' h' m') (F : Fr h₀ L h' m) (e : y = x) : Q (.int y t) { s with heap := h', toks := tk' } := by
  subst e
  exact hret t h' tk' F (C _ _ _ F')
theorem end_bool {x y : Bool}
    (hret : Ret h₀ L m news s Q (fun _ => .bool x)) (C : Carry g h₀ L news) (F' : Fr g L' h' m') (F : Fr h₀ L h' m) (e : y = x) : Q (.bool y) { s with heap := h', toks := tk' } := by
  subst e
  exact hret 0 h' tk' F (C _ _ _ F')
theorem end_str {x y : Str}
    (hret : Ret h₀ L m news s Q (fun t => .str x t)) (C : Carry g h₀ L news) (F' : Fr g L' h' m') (F : Fr h₀ L h' m) (e : y = x) : Q (.str y t) { s with heap := h', toks := tk' } := by
  subst e
  exact hret t h' tk' F (C _ _ _ F')
theorem end_tup {D : Addr} {R : Tok → Tok → Tok → Array Value} {vs : Array Value} {t1 t2 t3 : Tok}
    (hret : RetT h₀ L m news s Q R) (C : Carry g h₀ L news) (F' : Fr g L' h' m') (F : Fr h₀ L h' m) (N : News h₀ L h' news') (hm : (D, ({ cls := .type "tuple", data := .seq vs } : Obj)) ∈ news') (e : vs = R t1 t2 t3) : Q (.ref D) { s with heap := h', toks := tk' } := by
  subst e
  refine hret D t1 t2 t3 h' tk' F fun p hp => ?_
  rcases List.mem_cons.mp hp with rfl | hp
  · exact N _ hm
  · exact C _ _ _ F' p hp
end
/- a call by its contract -/
theorem use {w : World} {mean : ExcName → Option Value} {mg mb : Str → Option Value} {f : Addr} {d : Nat} {news : List (Addr × Obj)} {vs : List Value} {RR : Heap → Addr → (Str → Option Value) → Shared → (Value → Shared → Prop) → Prop}
    {dp un : Nat} {gd : Option (List Code)} {cn : Str} {cs : Scope} {a : Addr} {ccd : Value} {cl : List (Str × Addr)} {outer : List Env} {A₀ : Around} {base h₀ : Heap} {L : Addr} {m : Str → Option Value} {s : Shared} {Q E : Value → Shared → Prop}
    (H : Below A₀ base outer h₀ ∧ Fr h₀ L s.heap m ∧ (hd.heap_39 w.params).In h₀ ∧ News h₀ L s.heap news ∧ Top hd.view_39 LO mean mg mb h₀ ∧ cs.kind = .function)
    (c : Claim0 w mean mg mb f d news vs RR) (D : dp + d < recursionLimit ∧ un + 8 * d < cLine)
    (k : RR h₀ L m s Q) : wpAny (model PR w) (ktrTop dp un gd cn cs L a ccd cl outer) (call (.ref f) vs) Q E s :=
  c dp un gd cn cs a ccd cl outer A₀ base h₀ L m s Q E H.1 H.2.1 H.2.2.1 H.2.2.2.1 H.2.2.2.2.1 H.2.2.2.2.2 D.1 D.2 k
theorem lines_P01_Base_1 : True := by
  k_with "mine here" => exact ⟨by k_asm, by k_asm, by k_asm, by k_asm, by k_asm, by first | exact rfl | assumption⟩
  k_with "mine room" => exact ⟨by ktr_room, by ktr_units⟩
  k_with "mine pr" => first | omega | (with_reducible assumption)
  k_with "call ref" => (
  k_here
  (with_reducible show wpAny _ _ (call (Value.ref _) _) _ _ _)
  k_dflt (refine use (by walk_at "mine here") (by walk_at "mine claimT") (by walk_at "mine room") ?_)
  intro D9 t91 t92 t93 h9 tk9 F9 N9
  (try dsimp only)
  (try k_fold))
  k_with "call ref" => (
  k_here
  (with_reducible show wpAny _ _ (call (Value.ref _) _) _ _ _)
  k_dflt (refine use (by walk_at "mine here") (by walk_at "mine claimP") (by walk_at "mine room") ?_)
  intro t9 h9 tk9 F9 N9
  (try dsimp only)
  (try k_fold))
  trivial
theorem lines_P01_Base_2 : True := by
  k_with "mine enter" => (
  refine wpAny_call ?_
  k_dflt (refine' enter0 ?k1 ?k2 ?k3 ?k4 ?k5 ?kA ?kF ?kK ?k6 ?k7 ?k8 ?k9 ?kB ?_ ?c2 ?c3 ?c4 ?c5; (case kA => exact rfl); (case kF => exact rfl); (case kK => assumption); (case k1 => k_asm); (case k2 => k_asm); (case k3 => k_asm); (case k4 => k_asm); (case k5 => k_asm); (case k6 => k_is); (case k7 => k_is); (case k8 => ktr_room); (case k9 => exact BindsTo.of_eq rfl); (case c5 => decide); (case kB => exact locs rfl); (case c2 => exact rfl); (case c3 => exact rfl); (case c4 => exact rfl); k_whole; intro g' L' h' C' FG' F' N' B' X' T'; (try dsimp only); (try k_lift B'); (try k_fold)))
  trivial

theorem part_P02_Txt : True := by
  w_top off
  trivial
/- a text by the list of its signs -/
def mkS (l : List Nat) : Str := ⟨l.toArray⟩
theorem mkS_length (l : List Nat) : (mkS l).length = l.length := by simp [mkS, Str.length]
theorem mkS_cps (l : List Nat) : (mkS l).cps = l.toArray := rfl
theorem mkS_inj {a b : List Nat} (h : mkS a = mkS b) : a = b := by
  simpa [mkS] using h
theorem mkS_append (a b : List Nat) : mkS a ++ mkS b = mkS (a ++ b) := by
  show Str.append _ _ = _
  simp [Str.append, mkS]
theorem mkS_ne {a b : List Nat} (h : a ≠ b) : (mkS a == mkS b) = false := by
  rw [beq_eq_false_iff_ne]
  exact fun q => h (mkS_inj q)
theorem item_mkS {l : List Nat} {k : Int} (h0 : 0 ≤ k) (h1 : k < l.length) : Txt.item (mkS l) k = mkS [l.getD k.toNat 0] := by
  have hk : k.toNat < l.length := by omega
  unfold Txt.item Txt.charAt
  rw [StrLaws.seqIndex_nonneg h0 (by rw [mkS_length]; exact h1)]
  simp [mkS, hk]

/- what a sign is worth as a figure -/
def figOf (c : Nat) : Int := if 48 ≤ c ∧ c ≤ 57 then (c : Int) - 48 else if 97 ≤ c ∧ c ≤ 122 then (c : Int) - 87 else if 65 ≤ c ∧ c ≤ 90 then (c : Int) - 55 else 36
def Dg (c : Nat) : Prop := 48 ≤ c ∧ c ≤ 57
def AllDg (l : List Nat) : Prop := ∀ c ∈ l, Dg c
theorem figOf_dg {c : Nat} (h : Dg c) : figOf c = (c : Int) - 48 := by
  unfold figOf; unfold Dg at h; rw [if_pos h]
theorem figOf_lt {c : Nat} (h : Dg c) : figOf c < 10 := by
  rw [figOf_dg h]; unfold Dg at h; omega
theorem figOf_ge {c : Nat} (h : ¬ Dg c) : 10 ≤ figOf c := by
  unfold figOf; unfold Dg at h; rw [if_neg h]
  split
  · omega
  · split
    · omega
    · omega

theorem lts (s : String) (l : List Nat) (h : Str.ofString s = mkS l) : (Str.ofString s).cps.toList = l := by rw [h]; simp [mkS]
theorem s0 : (Str.ofString "0").cps.toList = [48] := by decide +kernel
theorem s9 : (Str.ofString "9").cps.toList = [57] := by decide +kernel
theorem sa : (Str.ofString "a").cps.toList = [97] := by decide +kernel
theorem sz : (Str.ofString "z").cps.toList = [122] := by decide +kernel
theorem sA : (Str.ofString "A").cps.toList = [65] := by decide +kernel
theorem sZ : (Str.ofString "Z").cps.toList = [90] := by decide +kernel
theorem mkS_toList (l : List Nat) : (mkS l).cps.toList = l := by simp [mkS]
theorem one_lt {a b : Nat} : ([a] : List Nat) < [b] ↔ a < b := by
  constructor
  · intro h
    cases h with
    | rel h => exact h
    | cons h => cases h
  · intro h; exact List.Lex.rel h
theorem mkS_ord (c : Nat) : (((mkS [c]).cps.getD 0 0 : Nat) : Int) = (c : Int) := by simp [mkS]

theorem part_P03_Bits : True := by
  w_top off
  trivial
/- the bit length, of a whole number of one or more -/
def bl (n : Int) : Int := ((n.toNat.log2 + 1 : Nat) : Int)
theorem bl_lo {n : Nat} (h : 0 < n) : 2 ^ n.log2 ≤ n := Nat.log2_self_le (by omega)
theorem bl_hi {n : Nat} : n < 2 ^ (n.log2 + 1) := Nat.lt_log2_self
theorem log2_shift {n k : Nat} (h : 2 ^ k ≤ n) : (n / 2 ^ k).log2 + k = n.log2 := by
  have hp : 0 < 2 ^ k := Nat.two_pow_pos k
  have h1 : 0 < n / 2 ^ k := Nat.div_pos h hp
  have hn : 0 < n := by omega
  have e : n / 2 ^ k < 2 ^ (n.log2 + 1 - k) := by
    rw [Nat.div_lt_iff_lt_mul hp, ← Nat.pow_add]
    have hk : k ≤ n.log2 := (Nat.le_log2 (by omega)).2 h
    have : n.log2 + 1 - k + k = n.log2 + 1 := by omega
    rw [this]; exact Nat.lt_log2_self
  have hk : k ≤ n.log2 := (Nat.le_log2 (by omega)).2 h
  have g : 2 ^ (n.log2 - k) ≤ n / 2 ^ k := by
    rw [Nat.le_div_iff_mul_le hp, ← Nat.pow_add]
    have : n.log2 - k + k = n.log2 := by omega
    rw [this]; exact bl_lo hn
  have a : (n / 2 ^ k).log2 < n.log2 + 1 - k := (Nat.log2_lt (by omega)).2 e
  have b : n.log2 - k ≤ (n / 2 ^ k).log2 := (Nat.le_log2 (by omega)).2 g
  omega
theorem bl_shift {n : Int} {k : Nat} (h : 2 ^ k ≤ n) : bl (n.fdiv (2 ^ k)) + k = bl n := by
  have h0 : 0 ≤ n := Int.le_trans (Int.le_of_lt (Int.pow_pos (by decide))) h
  obtain ⟨m, rfl⟩ := Int.eq_ofNat_of_zero_le h0
  have h' : 2 ^ k ≤ m := by exact_mod_cast h
  have e : ((m : Int)).fdiv (2 ^ k) = ((m / 2 ^ k : Nat) : Int) := by
    rw [Int.fdiv_eq_ediv_of_nonneg _ (Int.le_of_lt (Int.pow_pos (by decide)))]
    norm_cast
  rw [e]
  unfold bl
  simp only [Int.toNat_natCast]
  have := log2_shift h'
  omega
theorem bl_one : bl 1 = 1 := by decide
theorem shift_pos {n : Int} {k : Nat} (h : 2 ^ k ≤ n) : 1 ≤ n.fdiv (2 ^ k) := by
  have hp : (0 : Int) < 2 ^ k := Int.pow_pos (by decide)
  rw [Int.fdiv_eq_ediv_of_nonneg _ (Int.le_of_lt hp)]
  exact (Int.le_ediv_iff_mul_le hp).2 (by simpa using h)
theorem shift_lt {n : Int} {k j : Nat} (h : n < 2 ^ (j + k)) : n.fdiv (2 ^ k) < 2 ^ j := by
  have hp : (0 : Int) < 2 ^ k := Int.pow_pos (by decide)
  rw [Int.fdiv_eq_ediv_of_nonneg _ (Int.le_of_lt hp)]
  refine Int.ediv_lt_of_lt_mul hp ?_
  rw [← Int.pow_add]; exact h

theorem part_P04_BitOps : True := by
  w_top off
  trivial
theorem and_shl_lt {e f : Nat} (h : f < 2 ^ 52) : (e * 2 ^ 52) &&& f = 0 := by
  apply Nat.eq_of_testBit_eq
  intro i
  rw [Nat.testBit_and, Nat.zero_testBit, Nat.testBit_mul_two_pow]
  by_cases hi : 52 ≤ i
  · have : f.testBit i = false := Nat.testBit_lt_two_pow (Nat.lt_of_lt_of_le h (Nat.pow_le_pow_right (by decide) hi))
    simp [this]
  · simp [hi]
theorem or_zero_l (x : Int) : Builtin.bitOr 0 x = x := by
  rw [PyProof.Rows.bitOr_and, PyProof.Rows.bitAnd_comm, PyProof.Rows.bitAnd_zero]; omega
theorem or_shl {e f : Int} (he : 0 ≤ e) (h0 : 0 ≤ f) (h : f < 2 ^ 52) : Builtin.bitOr (e * 2 ^ 52) f = e * 2 ^ 52 + f := by
  rw [PyProof.Rows.bitOr_and]
  obtain ⟨a, rfl⟩ := Int.eq_ofNat_of_zero_le he
  obtain ⟨b, rfl⟩ := Int.eq_ofNat_of_zero_le h0
  have hb : b < 2 ^ 52 := by exact_mod_cast h
  have e1 : ((a : Int) * 2 ^ 52) = ((a * 2 ^ 52 : Nat) : Int) := by rw [Int.natCast_mul, Int.natCast_pow]; rfl
  rw [e1, PyProof.Rows.bitAnd_pp (Int.natCast_nonneg _) (Int.natCast_nonneg _)]
  simp only [Int.toNat_natCast]
  rw [and_shl_lt hb]
  simp

theorem part_P05_Round : True := by
  w_top off
  trivial
/- the quotient of a by b, rounded to the nearest, a tie to the even -/
def rnd (a b : Nat) : Nat := if b < 2 * (a % b) ∨ (2 * (a % b) = b ∧ (a / b) % 2 = 1) then a / b + 1 else a / b
theorem rnd_mul {a b k : Nat} (hk : 0 < k) : rnd (a * k) (b * k) = rnd a b := by
  unfold rnd
  rw [Nat.mul_div_mul_right _ _ hk, Nat.mul_mod_mul_right]
  have e1 : (b * k < 2 * (a % b * k)) ↔ (b < 2 * (a % b)) := by
    rw [← Nat.mul_assoc]; exact Nat.mul_lt_mul_right hk
  have e2 : (2 * (a % b * k) = b * k) ↔ (2 * (a % b) = b) := by
    rw [← Nat.mul_assoc]; exact Nat.mul_left_inj (by omega)
  simp only [e1, e2]
theorem rnd_ge {a b : Nat} : a / b ≤ rnd a b := by unfold rnd; split <;> omega
theorem rnd_le1 {a b : Nat} : rnd a b ≤ a / b + 1 := by unfold rnd; split <;> omega
theorem rnd_le {a b K : Nat} (hb : 0 < b) (h : a < K * b) : rnd a b ≤ K := by
  have h1 : a / b < K := (Nat.div_lt_iff_lt_mul hb).2 h
  have := @rnd_le1 a b
  omega
theorem le_rnd {a b K : Nat} (hb : 0 < b) (h : K * b ≤ a) : K ≤ rnd a b := Nat.le_trans ((Nat.le_div_iff_mul_le hb).2 h) rnd_ge
theorem rnd_mono {a b a' b' : Nat} (hb : 0 < b) (hb' : 0 < b') (h : a * b' ≤ a' * b) : rnd a b ≤ rnd a' b' := by
  have hq : a / b ≤ a' / b' := by
    rw [Nat.le_div_iff_mul_le hb']
    refine Nat.le_of_mul_le_mul_right ?_ hb
    have : a / b * b ≤ a := Nat.div_mul_le_self a b
    calc a / b * b' * b = a / b * b * b' := by rw [Nat.mul_right_comm]
      _ ≤ a * b' := Nat.mul_le_mul_right _ this
      _ ≤ a' * b := h
  by_cases hlt : a / b < a' / b'
  · have h1 := @rnd_le1 a b
    have h2 := @rnd_ge a' b'
    omega
  · have e : a / b = a' / b' := by omega
    have hr : (a % b) * b' ≤ (a' % b') * b := by
      have d1 := Nat.div_add_mod a b
      have d2 := Nat.div_add_mod a' b'
      rw [← d1, ← d2, Nat.add_mul, Nat.add_mul, ← e] at h
      have c : b * (a / b) * b' = b' * (a / b) * b := by rw [Nat.mul_comm b, Nat.mul_comm b', Nat.mul_assoc, Nat.mul_assoc, Nat.mul_comm b b']
      rw [c] at h
      omega
    unfold rnd
    rw [← e]
    by_cases hc : b < 2 * (a % b) ∨ (2 * (a % b) = b ∧ (a / b) % 2 = 1)
    · rw [if_pos hc, if_pos]
      · omega
      · have h2 : 2 * (a % b) * b' ≤ 2 * (a' % b') * b := by
          rw [Nat.mul_assoc, Nat.mul_assoc]; exact Nat.mul_le_mul_left 2 hr
        rcases hc with hc | ⟨hc, hodd⟩
        · left
          refine Nat.lt_of_mul_lt_mul_right (a := b) ?_
          calc b' * b = b * b' := Nat.mul_comm _ _
            _ < 2 * (a % b) * b' := Nat.mul_lt_mul_of_pos_right hc hb'
            _ ≤ 2 * (a' % b') * b := h2
        · have h3 : b' ≤ 2 * (a' % b') := by
            refine Nat.le_of_mul_le_mul_right ?_ hb
            calc b' * b = b * b' := Nat.mul_comm _ _
              _ = 2 * (a % b) * b' := by rw [hc]
              _ ≤ 2 * (a' % b') * b := h2
          by_cases h4 : b' = 2 * (a' % b')
          · right; exact ⟨h4.symm, hodd⟩
          · left; omega
    · rw [if_neg hc]
      split <;> omega

/- v is the double's bits of n / d: M is the scale of the least power, T the bits from one power to the next -/
def Rd (M : Nat) (n d : Nat) (v : Int) : Prop := ∃ p : Nat, (p = 0 ∨ 4503599627370496 * (d * 2 ^ p) ≤ n * M) ∧ n * M < 9007199254740992 * (d * 2 ^ p) ∧
  v = (if (p : Int) * 4503599627370496 + (rnd (n * M) (d * 2 ^ p) : Nat) < 9218868437227405312 then (p : Int) * 4503599627370496 + (rnd (n * M) (d * 2 ^ p) : Nat) else 9218868437227405312)
theorem two_pow_split {p q : Nat} (h : p < q) : ∃ k, 0 < k ∧ 2 ^ q = 2 ^ p * (2 * k) := by
  refine ⟨2 ^ (q - p - 1), Nat.two_pow_pos _, ?_⟩
  rw [← Nat.pow_succ', ← Nat.pow_add]
  congr 1; omega
theorem Rd.mono {M n d n' d' : Nat} {v v' : Int} (hd : 0 < d) (hd' : 0 < d') (x : Rd M n d v) (y : Rd M n' d' v') (h : n * d' ≤ n' * d) : v ≤ v' := by
  obtain ⟨p, a1, a2, a3⟩ := x
  obtain ⟨q, b1, b2, b3⟩ := y
  have hp : 0 < d * 2 ^ p := Nat.mul_pos hd (Nat.two_pow_pos _)
  have hq : 0 < d' * 2 ^ q := Nat.mul_pos hd' (Nat.two_pow_pos _)
  have hM : n * M * d' ≤ n' * M * d := by
    rw [Nat.mul_right_comm n, Nat.mul_right_comm n']; exact Nat.mul_le_mul_right _ h
  have key : (p : Int) * 4503599627370496 + (rnd (n * M) (d * 2 ^ p) : Nat) ≤ (q : Int) * 4503599627370496 + (rnd (n' * M) (d' * 2 ^ q) : Nat) := by
    by_cases e : p = q
    · subst e
      have := rnd_mono (a := n * M) (a' := n' * M) hp hq (by rw [← Nat.mul_assoc, ← Nat.mul_assoc]; exact Nat.mul_le_mul_right _ hM)
      omega
    · by_cases l : p < q
      · have h1 := rnd_le hp a2
        have h2 := le_rnd hq (b1.resolve_left (by omega))
        omega
      · exfalso
        have l' : q < p := by omega
        have c1 := a1.resolve_left (by omega)
        obtain ⟨k, hk, ek⟩ := two_pow_split l'
        -- 2^52 d 2^p d' ≤ n M d' ≤ n' M d < 2^53 d' 2^q d
        have f1 : 4503599627370496 * (d * 2 ^ p) * d' ≤ n' * M * d := Nat.le_trans (Nat.mul_le_mul_right _ c1) hM
        have f2 : n' * M * d < 9007199254740992 * (d' * 2 ^ q) * d := Nat.mul_lt_mul_of_pos_right b2 hd
        have f3 : 9007199254740992 * (d' * 2 ^ q) * d ≤ 4503599627370496 * (d * 2 ^ p) * d' := by
          rw [ek]
          have g : 9007199254740992 * (d' * 2 ^ q) * d = 4503599627370496 * (2 * (d * 2 ^ q * d')) := by
            rw [show (9007199254740992 : Nat) = 4503599627370496 * 2 from rfl]
            rw [Nat.mul_assoc, Nat.mul_assoc, Nat.mul_comm d' (2 ^ q), Nat.mul_comm (2 ^ q * d') d, Nat.mul_assoc d]
          have g2 : 4503599627370496 * (d * (2 ^ q * (2 * k))) * d' = 4503599627370496 * (2 * (d * 2 ^ q * d') * k) := by
            rw [Nat.mul_assoc]
            congr 1
            ac_rfl
          rw [g, g2]
          exact Nat.mul_le_mul_left _ (Nat.le_mul_of_pos_right _ hk)
        omega
  rw [a3, b3]
  split <;> split <;> omega
theorem Rd.same {M n d n' d' : Nat} {v v' : Int} (hd : 0 < d) (hd' : 0 < d') (x : Rd M n d v) (y : Rd M n' d' v') (h : n * d' = n' * d) : v = v' :=
  Int.le_antisymm (x.mono hd hd' y (Nat.le_of_eq h)) (y.mono hd' hd x (Nat.le_of_eq h.symm))
theorem Rd.range {M n d : Nat} {v : Int} (x : Rd M n d v) : 0 ≤ v ∧ v ≤ 9218868437227405312 := by
  obtain ⟨p, _, _, a3⟩ := x
  rw [a3]
  split <;> omega

theorem part_P07_TxtOps : True := by
  w_top off
  trivial
theorem lit_nil : Str.ofString "" = mkS [] := by decide +kernel
theorem lit_0 : Str.ofString "0" = mkS [48] := by decide +kernel
theorem lit_dot : Str.ofString "." = mkS [46] := by decide +kernel
theorem lit_e : Str.ofString "e" = mkS [101] := by decide +kernel
theorem lit_E : Str.ofString "E" = mkS [69] := by decide +kernel
theorem lit_plus : Str.ofString "+" = mkS [43] := by decide +kernel
theorem lit_minus : Str.ofString "-" = mkS [45] := by decide +kernel
theorem lit_pm : Str.ofString "+-" = mkS [43, 45] := by decide +kernel
theorem lit_eE : Str.ofString "eE" = mkS [101, 69] := by decide +kernel
theorem lit_end : Str.ofString "Infinity" = mkS [73, 110, 102, 105, 110, 105, 116, 121] := by decide +kernel
theorem lit_0x : Str.ofString "0x" = mkS [48, 120] := by decide +kernel
theorem lit_0X : Str.ofString "0X" = mkS [48, 88] := by decide +kernel
theorem lit_000e : Str.ofString ".000e" = mkS [46, 48, 48, 48, 101] := by decide +kernel
theorem nat_add1 (q : Nat) : ((q : Int) + 1).toNat = q + 1 := by omega
theorem nat_sub (p a : Nat) : ((p : Int) - (a : Int)).toNat = p - a := by omega
theorem nat_sub1 (q p : Nat) : ((q : Int) - ((p : Int) + 1)).toNat = q - (p + 1) := by omega
theorem mkS_self (x : Str) : x = mkS x.cps.toList := by simp [mkS]
theorem toList_mkS (l : List Nat) : (mkS l).cps.toList = l := by simp [mkS]
theorem slice_eq {l : List Nat} {i j : Int} (h0 : 0 ≤ i) (h1 : i ≤ j) (h2 : j ≤ l.length) : Txt.slice (mkS l) (some i) (some j) = mkS ((l.drop i.toNat).take (j - i).toNat) := by
  have := beq_iff_eq.mp (slice_closesL (x := mkS l) h0 h1 (by rw [mkS_length]; exact h2))
  rw [this, toList_mkS]; rfl
theorem slice_to_eq {l : List Nat} {j : Int} (h0 : 0 ≤ j) (h2 : j ≤ l.length) : Txt.slice (mkS l) none (some j) = mkS (l.take j.toNat) := by
  have := beq_iff_eq.mp (slice_closes_toL (x := mkS l) h0 (by rw [mkS_length]; exact h2))
  rw [this, toList_mkS]
  simp [mkS]
theorem slice_from_eq' {l : List Nat} {i : Int} (h0 : 0 ≤ i) (h2 : i ≤ l.length) : Txt.slice (mkS l) (some i) none = mkS (l.drop i.toNat) := by
  have := beq_iff_eq.mp (slice_closes_fromL (x := mkS l) (b := l.length) h0 (by rw [mkS_length]; exact h2) (by rw [mkS_length]))
  rw [this, toList_mkS, List.take_of_length_le (by rw [List.length_drop]; omega)]
  rfl
theorem idx_hi_beyond (len : Nat) {i j : Int} (h : (len : Int) ≤ j) : Builtin.Str.strSliceIndices (some i) (some j) 1 len = Builtin.Str.strSliceIndices (some i) (some (len : Int)) 1 len := by
  unfold Builtin.Str.strSliceIndices
  simp only [show (1 : Int) > 0 from by decide, if_true]
  rw [if_neg (show ¬ j < 0 by omega), if_neg (show ¬ (len : Int) < 0 by omega)]
  rw [Int.min_eq_right h, Int.min_self]
theorem slice_hi_beyond {l : List Nat} {i j : Int} (h : (l.length : Int) ≤ j) : Txt.slice (mkS l) (some i) (some j) = Txt.slice (mkS l) (some i) (some (l.length : Int)) := by
  unfold Txt.slice
  rw [idx_hi_beyond _ (by rw [mkS_length]; exact h), mkS_length]
theorem slice_any {l : List Nat} {i j : Int} (h0 : 0 ≤ i) (h1 : i ≤ j) (h2 : i ≤ l.length) : Txt.slice (mkS l) (some i) (some j) = mkS ((l.drop i.toNat).take (j - i).toNat) := by
  by_cases h : j ≤ l.length
  · exact slice_eq h0 h1 h
  · rw [slice_hi_beyond (by omega), slice_eq h0 h2 (Int.le_refl _), List.take_of_length_le, List.take_of_length_le]
    · rw [List.length_drop]; omega
    · rw [List.length_drop]; omega
theorem lstrip_eq {l : List Nat} : Txt.lstripChars (mkS l) (Str.ofString "0") = mkS (l.dropWhile (· == 48)) := by
  have hg : (Str.ofString "0").cps.contains = (fun c : Nat => c == 48) := by
    funext c
    rw [lit_0]
    show (#[48] : Array Nat).contains c = _
    simp [Array.contains]
  have hd : l.dropWhile (· == 48) = l.drop (l.takeWhile (· == 48)).length := by
    clear hg
    induction l with
    | nil => rfl
    | cons a r ih =>
      by_cases h : (a == 48) = true
      · simp only [List.dropWhile_cons, List.takeWhile_cons, h, if_true, List.length_cons, List.drop_succ_cons]; exact ih
      · simp only [List.dropWhile_cons, List.takeWhile_cons, h]; rfl
  unfold Txt.lstripChars Txt.stripBy
  rw [hg]
  by_cases hs : PySem.stripSame (fun c : Nat => c == 48) true false (mkS l) = true
  · rw [if_pos hs]
    unfold PySem.stripSame PySem.stripLo at hs
    rw [if_pos rfl, toList_mkS] at hs
    have := (Bool.and_eq_true_iff.mp hs).1
    rw [beq_iff_eq] at this
    rw [hd, this]; rfl
  · rw [if_neg hs]
    unfold PySem.stripped PySem.stripLo PySem.stripHi
    rw [if_pos rfl, if_neg (by decide), toList_mkS, strSub_mk, toList_mkS, hd, mkS_length]
    rw [List.take_of_length_le (by rw [List.length_drop]; omega)]
    rfl
section
variable {prog : Program} {w : World} {A : Around} {E : Value → Shared → Prop} {s : Shared} {t u : Tok} {x y : Str} {a b l : List Nat} {value slice : Expr} {h₀ : Heap} {L : Addr} {m : Str → Option Value} {news : List (Addr × Obj)} {Q : Value → Shared → Prop}
theorem len_m (hx : x = mkS l) (hl : l.length ≤ 4000) (h : Q (.int (l.length : Int) (s.toks + 1)) { s with toks := s.toks + 1 + 1 }) : wpAny (model prog w) A (call (.builtin "len") [.str x t]) Q E s := by
  subst hx
  have := mkS_length l
  refine P.len_str (by omega) ?_
  rw [this]; exact h
theorem add_m {c : List Nat} (hx : x = mkS a) (hy : y = mkS b) (hc : a ++ b = c) (ha : a.length ≤ 4000) (hb : b.length ≤ 4000) (h : ∀ t' tk, Q (.str (mkS c) t') { s with toks := tk }) :
    wpAny (model prog w) A (binaryOp .Add (.str x t) (.str y u)) Q E s := by
  subst hx; subst hy; subst hc
  refine add_str (fun t' tk => ?_) (by rw [mkS_length, mkS_length, sizeLine_eq]; omega)
  rw [mkS_append]; exact h t' tk
theorem eq_m (hx : x = mkS a) (hy : y = mkS b) (h : Q (.bool (decide (a = b))) s) : wpAny (model prog w) A (compareOp .Eq (.str x t) (.str y u)) Q E s := by
  subst hx; subst hy
  refine PyProof.Rows.eq_str ?_
  have e : (mkS a == mkS b) = decide (a = b) := by
    rw [Bool.eq_iff_iff, beq_iff_eq, decide_eq_true_eq]
    exact ⟨mkS_inj, fun h => by rw [h]⟩
  rw [e]; exact h
theorem eq_m_t (hx : x = mkS a) (hy : y = mkS b) (e : a = b) (h : Q (.bool true) s) : wpAny (model prog w) A (compareOp .Eq (.str x t) (.str y u)) Q E s :=
  eq_m hx hy (by rw [decide_eq_true e]; exact h)
theorem eq_m_f (hx : x = mkS a) (hy : y = mkS b) (e : a ≠ b) (h : Q (.bool false) s) : wpAny (model prog w) A (compareOp .Eq (.str x t) (.str y u)) Q E s :=
  eq_m hx hy (by rw [decide_eq_false e]; exact h)
theorem in_m {c : Nat} (hy : y = mkS b) (h : Q (.bool (decide (c ∈ b))) s) : wpAny (model prog w) A (compareOp .In (.str (mkS [c]) t) (.str y u)) Q E s := by
  subst hy
  refine P.in_str ?_
  have e := StrLaws.found_one (mkS b) c
  rw [toList_mkS] at e
  show Q (.bool !(Builtin.Str.occurrences (mkS b) ⟨#[c]⟩ 0 (mkS b).length 1).isEmpty) s
  rw [e]; exact h
theorem notin_m {c : Nat} (hy : y = mkS b) (h : Q (.bool (!decide (c ∈ b))) s) : wpAny (model prog w) A (compareOp .NotIn (.str (mkS [c]) t) (.str y u)) Q E s := by
  subst hy
  refine P.notIn_str ?_
  have e := StrLaws.found_one (mkS b) c
  rw [toList_mkS] at e
  show Q (.bool !(!(Builtin.Str.occurrences (mkS b) ⟨#[c]⟩ 0 (mkS b).length 1).isEmpty)) s
  rw [e]; exact h
theorem item_m {i : Int} {k : Nat} (hx : x = mkS l) (hk : i.toNat = k) (hl : l.length ≤ 4000) (h0 : 0 ≤ i) (h1 : i < l.length) (h : Q (.str (mkS [l.getD k 0]) s.toks) { s with toks := s.toks + 1 })
    (hs : subscripted slice false (.str x t) (.int i u) = operate [.str x t, .int i u] (getItem (.str x t) (.int i u)) := by with_unfolding_all rfl)
    (ht : ∀ r, letTemporaryGo value (.str x t) r = pure () := by intro _; with_unfolding_all rfl) :
    wpAny (model prog w) A (subscriptTail value slice (.str x t) (.int i u)) Q E s := by
  subst hx; subst hk
  have := mkS_length l
  refine item_str (fitsSsize_of (N := 9223372036854775808) (by omega) (by omega) (Int.le_refl _)) (by omega) (by omega) (fun _ => ?_) hs ht
  rw [item_mkS h0 h1]; exact h
theorem slice_ss_m {c : List Nat} {i j : Int} {ui uj : Tok} {ni nk : Nat} (hx : x = mkS l) (hF : Fr h₀ L s.heap m) (hN : News h₀ L s.heap news) (hi : i.toNat = ni) (hk : (j - i).toNat = nk) (h0 : 0 ≤ i) (h1 : i ≤ j) (h2 : i ≤ l.length) (hl : l.length ≤ 4000) (hc : (l.drop ni).take nk = c)
    (h : ∀ h' t' k, Fr h₀ L h' m → News h₀ L h' news → Q (.str (mkS c) t') { s with heap := h', toks := k })
    (hs : subscripted slice false (.str x t) (.ref s.heap.objs.size) = operate [.ref s.heap.objs.size, .str x t] (getItem (.str x t) (.ref s.heap.objs.size)) := by with_unfolding_all rfl)
    (ht : ∀ r, letTemporaryGo value (.str x t) r = pure () := by intro _; with_unfolding_all rfl) :
    wpAny (model prog w) A (subscriptTail value slice (.str x t) (.ref s.heap.objs.size)) Q E { s with heap := s.heap.push { cls := .type "slice", data := .fields #[.int i ui, .int j uj, .none] } } := by
  subst hx; subst hi; subst hk; subst hc
  refine slice_strN_ss hF hN (fun h' t' k a b => ?_) hs ht (by rw [mkS_length, sizeLine_eq]; omega)
  rw [slice_any h0 h1 h2]; exact h h' t' k a b
theorem slice_ns_m {j : Int} {uj : Tok} {nk : Nat} (hx : x = mkS l) (hF : Fr h₀ L s.heap m) (hN : News h₀ L s.heap news) (hk : j.toNat = nk) (h0 : 0 ≤ j) (h1 : j ≤ l.length) (hl : l.length ≤ 4000)
    (h : ∀ h' t' k, Fr h₀ L h' m → News h₀ L h' news → Q (.str (mkS (l.take nk)) t') { s with heap := h', toks := k })
    (hs : subscripted slice false (.str x t) (.ref s.heap.objs.size) = operate [.ref s.heap.objs.size, .str x t] (getItem (.str x t) (.ref s.heap.objs.size)) := by with_unfolding_all rfl)
    (ht : ∀ r, letTemporaryGo value (.str x t) r = pure () := by intro _; with_unfolding_all rfl) :
    wpAny (model prog w) A (subscriptTail value slice (.str x t) (.ref s.heap.objs.size)) Q E { s with heap := s.heap.push { cls := .type "slice", data := .fields #[.none, .int j uj, .none] } } := by
  subst hx; subst hk
  refine slice_strN_ns hF hN (fun h' t' k a b => ?_) hs ht (by rw [mkS_length, sizeLine_eq]; omega)
  rw [slice_to_eq h0 h1]; exact h h' t' k a b
theorem slice_sn_m {i : Int} {ui : Tok} {nk : Nat} (hx : x = mkS l) (hF : Fr h₀ L s.heap m) (hN : News h₀ L s.heap news) (hk : i.toNat = nk) (h0 : 0 ≤ i) (h1 : i ≤ l.length) (hl : l.length ≤ 4000)
    (h : ∀ h' t' k, Fr h₀ L h' m → News h₀ L h' news → Q (.str (mkS (l.drop nk)) t') { s with heap := h', toks := k })
    (hs : subscripted slice false (.str x t) (.ref s.heap.objs.size) = operate [.ref s.heap.objs.size, .str x t] (getItem (.str x t) (.ref s.heap.objs.size)) := by with_unfolding_all rfl)
    (ht : ∀ r, letTemporaryGo value (.str x t) r = pure () := by intro _; with_unfolding_all rfl) :
    wpAny (model prog w) A (subscriptTail value slice (.str x t) (.ref s.heap.objs.size)) Q E { s with heap := s.heap.push { cls := .type "slice", data := .fields #[.int i ui, .none, .none] } } := by
  subst hx; subst hk
  refine slice_strN_sn hF hN (fun h' t' k a b => ?_) hs ht (by rw [mkS_length, sizeLine_eq]; omega)
  rw [slice_from_eq' h0 h1]; exact h h' t' k a b
theorem lstrip_m (hk : l.dropWhile (· == 48) = a) (hl : l.length ≤ 4000) (h : ∀ t' k, Q (.str (mkS a) t') { s with toks := k }) : wpAny (model prog w) A (call (.builtin "str.lstrip") [.str (mkS l) t, .str (Str.ofString "0") u]) Q E s :=
  KXw.lstripChars (hk ▸ lstrip_eq) (by rw [mkS_length, sizeLine_eq]; omega) h
theorem mul_m {c : Nat} {n : Int} {k : Nat} (hx : x = mkS [c]) (hk : n.toNat = k) (h0 : 0 ≤ n) (h1 : n ≤ 4000) (h : ∀ t' tk, Q (.str (mkS (List.replicate k c)) t') { s with toks := tk }) : wpAny (model prog w) A (binaryOp .Mult (.str x t) (.int n u)) Q E s := by
  subst hx; subst hk
  refine SB.mul (mulOk_of 16 1048576 (by rw [mkS_length, List.length_singleton]; decide) (by omega) (by omega) (by decide) (by decide)) (fun t' tk => ?_)
  have e : Txt.mul (mkS [c]) n = mkS (List.replicate n.toNat c) := by
    have := PyProof.Rows.mul_one_list c n
    rw [mkS_self (Txt.mul (mkS [c]) n)]
    congr 1
  rw [e]; exact h t' tk
end

theorem part_P11_Fig : True := by
  w_top off
  trivial
set_option maxHeartbeats 8000000 in
theorem c_figure_of {w : World} : ∀ (mean : ExcName → Option Value) (mg mb : Str → Option Value) (news : List (Addr × Obj)) (c : Nat) (t : Tok), Claim w mean mg mb 105 1 news [.str (mkS [c]) t] (fun t => .int (figOf c) t) := by
  intros mean mg mb news c t dp un gd cn cs a ccd cl outer A₀ base h₀ L m s Q E HB HF HK HN HT hk hd hu hret
  walk_at "mine enter"
  k_steps
  all_goals (refine end_int hret (by assumption) (by assumption) (by assumption) ?_)
  all_goals (simp only [s0, s9, sa, sz, sA, sZ, mkS_toList, one_lt] at *; unfold figOf)
  all_goals (repeat' split) 
  all_goals first | rfl | omega
theorem lines_P11_Fig_1 : True := by
  k_with "mine claimP" => (
  (with_reducible show Claim0 _ _ _ _ 105 _ _ _ _)
  (with_reducible exact c_figure_of _ _ _ _ _ _))
  trivial

theorem part_P12_Run : True := by
  w_top off
  trivial
section
variable {prog : Program} {w : World} {A : Around} {E : Value → Shared → Prop} {s : Shared} {t : Tok} {l : List Nat} {value slice : Expr}
theorem len_mkS {Q : Value → Shared → Prop} (hl : l.length ≤ 2000) (h : Q (.int (l.length : Int) (s.toks + 1)) { s with toks := s.toks + 1 + 1 }) : wpAny (model prog w) A (call (.builtin "len") [.str (mkS l) t]) Q E s := by
  have := mkS_length l
  refine P.len_str (by omega) ?_
  rw [this]; exact h
theorem item_mkS_at {i : Int} {u : Tok} {Q : Value → Shared → Prop} (hl : l.length ≤ 2000) (h0 : 0 ≤ i) (h1 : i < l.length) (h : Q (.str (mkS [l.getD i.toNat 0]) s.toks) { s with toks := s.toks + 1 })
    (hs : subscripted slice false (.str (mkS l) t) (.int i u) = operate [.str (mkS l) t, .int i u] (getItem (.str (mkS l) t) (.int i u)) := by with_unfolding_all rfl)
    (ht : ∀ r, letTemporaryGo value (.str (mkS l) t) r = pure () := by intro _; with_unfolding_all rfl) :
    wpAny (model prog w) A (subscriptTail value slice (.str (mkS l) t) (.int i u)) Q E s := by
  have := mkS_length l
  refine item_str (fitsSsize_of (N := 9223372036854775808) (by omega) (by omega) (Int.le_refl _)) (by omega) (by omega) (fun _ => ?_) hs ht
  rw [item_mkS h0 h1]; exact h
end

theorem lines_P12_Run_1 : True := by
  k_with "call builtin:len" => (k_here; (with_reducible show wpAny _ _ (call (Value.builtin "len") [Value.str (mkS _) _]) _ _ _); (refine len_mkS (by assumption) ?_))
  k_with "subscriptTail Name Name str int" => (k_here; (with_reducible show wpAny _ _ (subscriptTail _ _ (Value.str (mkS _) _) (Value.int _ _)) _ _ _); (refine item_mkS_at (by assumption) (by omega) (by omega) ?_))
  trivial

theorem run_step {l : List Nat} {n₁ : Nat} {i : Int} (hb : n₁ = l.length ∨ ¬ Dg (l.getD n₁ 0)) (h1 : i ≤ n₁) (h0 : 0 ≤ i) (hf : figOf (l.getD i.toNat 0) < 10) (hlt : i < l.length) : i + 1 ≤ n₁ := by
  by_cases e : i = n₁
  · subst e
    rcases hb with hb | hb
    · omega
    · have := figOf_ge hb
      simp only [Int.toNat_natCast] at hf
      omega
  · omega
theorem run_stop {l : List Nat} {n₀ n₁ : Nat} {i : Int} (hd : ∀ j, n₀ ≤ j → j < n₁ → Dg (l.getD j 0)) (h0 : n₀ ≤ i) (h1 : i ≤ n₁) (hf : ¬ figOf (l.getD i.toNat 0) < 10) : i = n₁ := by
  by_cases e : i = n₁
  · exact e
  · exact absurd (figOf_lt (hd i.toNat (by omega) (by omega))) hf

set_option maxHeartbeats 8000000 in
theorem c_run_end {w : World} : ∀ (mean : ExcName → Option Value) (mg mb : Str → Option Value) (news : List (Addr × Obj)) (l : List Nat) (t t2 t3 : Tok) (n₀ n₁ : Nat) (_ : l.length ≤ 2000) (_ : n₀ ≤ n₁) (_ : n₁ ≤ l.length)
    (_ : ∀ j, n₀ ≤ j → j < n₁ → Dg (l.getD j 0)) (_ : n₁ = l.length ∨ ¬ Dg (l.getD n₁ 0)), Claim w mean mg mb 112 2 news [.str (mkS l) t, .int (n₀ : Int) t2, .int 10 t3] (fun t => .int (n₁ : Int) t) := by
  intros mean mg mb news l t t2 t3 n₀ n₁ hl h01 h1l hdg hend dp un gd cn cs a ccd cl outer A₀ base h₀ L m s Q E HB HF HK HN HT hk hd hu hret
  walk_at "mine enter"
  (k_with "exec While BoolOp cons nil" => k_while (fun _ i => (n₀ : Int) ≤ i ∧ i ≤ (n₁ : Int)) (fun _ i => ((l.length : Int) - i).toNat) "at")
  (k_with "state" => exact ⟨by omega, run_step hend (by omega) (by omega) (by assumption) (by omega)⟩)
  k_steps
  all_goals (refine end_int hret (by assumption) (by assumption) (by assumption) ?_)
  all_goals first | omega | exact run_stop hdg (by omega) (by omega) (by assumption)

theorem part_P13_Wid : True := by
  w_top off
  trivial
theorem wid_turn {n₀ n many : Int} (h1 : 1 ≤ n) (h : bl n + many = bl n₀) (hg : 1 * 2 ^ Int.toNat 64 ≤ n) : 1 ≤ n.fdiv (2 ^ Int.toNat 64) ∧ bl (n.fdiv (2 ^ Int.toNat 64)) + (many + 64) = bl n₀ := by
  have hg' : (2 : Int) ^ 64 ≤ n := by rw [Int.one_mul] at hg; exact hg
  have := bl_shift hg'
  exact ⟨shift_pos hg', by rw [show Int.toNat 64 = 64 from rfl]; omega⟩
theorem wid_meas {n : Int} (hg : 1 * 2 ^ Int.toNat 64 ≤ n) : (n.fdiv (2 ^ Int.toNat 64)).toNat < n.toNat := by
  rw [Int.one_mul, show Int.toNat 64 = 64 from rfl] at hg
  have hp : (0 : Int) < 2 ^ 64 := by decide
  rw [show Int.toNat 64 = 64 from rfl, Int.fdiv_eq_ediv_of_nonneg _ (Int.le_of_lt hp)]
  have h1 : n / 2 ^ 64 < n := Int.ediv_lt_of_lt_mul hp (by omega)
  omega
/- what stands between the turns of width's second loop -/
def WidP (n₀ : Int) (k : Nat) (n many : Int) : Prop := 1 ≤ n ∧ n < 2 ^ k ∧ bl n + many = bl n₀
theorem widP_yes {n₀ n many : Int} {j k : Nat} (h : WidP n₀ j n many) (hj : j = k + k) (hg : (2 : Int) ^ k ≤ n) : WidP n₀ k (n.fdiv (2 ^ k)) (many + k) := by
  subst hj
  have := bl_shift hg
  exact ⟨shift_pos hg, shift_lt h.2.1, by have := h.2.2; omega⟩
theorem widP_no {n₀ n many : Int} {j k : Nat} (h : WidP n₀ j n many) (hg : ¬ (2 : Int) ^ k ≤ n) : WidP n₀ k n many := ⟨h.1, by omega, h.2.2⟩
theorem widP_end {n₀ n many : Int} (h : WidP n₀ (Int.toNat 1) n many) : many + n = bl n₀ := by
  have h1 := h.1
  have h2 : n < 2 := h.2.1
  have e : n = 1 := by omega
  subst e
  have := h.2.2
  rw [bl_one] at this
  omega
structure WidJ (h₀ : Heap) (L : Addr) (news : List (Addr × Obj)) (s : Shared) (P : Int → Int → Prop) (f : Flow) (s' : Shared) : Prop where
  out : f = .next ∧ ∃ (h' : Heap) (tk' : Nat) (m' : Str → Option Value) (n' many' : Int) (t1 t2 : Tok), s' = { s with heap := h', toks := tk' } ∧ Fr h₀ L h' m' ∧ News h₀ L h' news ∧
    m' (Str.ofString "n") = some (.int n' t1) ∧ m' (Str.ofString "many") = some (.int many' t2) ∧ P n' many'
theorem fr_fix {h₀ h : Heap} {L : Addr} {m : Str → Option Value} {x y : Str} {a b : Value} (F : Fr h₀ L h m) (h1 : m x = some a) (h2 : m y = some b) :
    Fr h₀ L h (fun z => if z = x then some a else if z = y then some b else m z) := by
  have e : (fun z => if z = x then some a else if z = y then some b else m z) = m := by
    funext z
    by_cases hx : z = x
    · rw [if_pos hx, hx, h1]
    · rw [if_neg hx]
      by_cases hy : z = y
      · rw [if_pos hy, hy, h2]
      · rw [if_neg hy]
  rw [e]; exact F
theorem wid_if {M : Model} {A : Around} {E : Value → Shared → Prop} {s : Shared} {env : Env} {h₀ : Heap} {L : Addr} {m : Str → Option Value} {news : List (Addr × Obj)} {test : Expr} {body : List Stmt} {pos : Pos} {Q : Flow → Shared → Prop}
    {n₀ k : Int} {tk₀ : Tok} {j : Nat} {n many : Int} (_wP : WidP n₀ j n many) (_F : Fr h₀ L s.heap m) (_N : News h₀ L s.heap news) (_hm : m (Str.ofString "step") = some (.int k tk₀))
    (h1 : wpAny M A (isTrue test env (eval test env)) (fun b s₂ => if b = true then wpAny M A (execs body env) (fun f s' => WidJ h₀ L news s (WidP n₀ k.toNat) f s') E s₂ else wpAny M A (execs [] env) (fun f s' => WidJ h₀ L news s (WidP n₀ k.toNat) f s') E s₂) E s)
    (h2 : ∀ (h' : Heap) (tk' : Nat) (m' : Str → Option Value) (n' many' : Int) (t1 t2 : Tok), WidP n₀ k.toNat n' many' →
      Fr h₀ L h' (fun z => if z = Str.ofString "n" then some (.int n' t1) else if z = Str.ofString "many" then some (.int many' t2) else m' z) → News h₀ L h' news → Q .next { s with heap := h', toks := tk' }) :
    wpAny M A (exec (.If test body [] pos) env) Q E s := by
  refine wpAny_If (wpAny_mono h1 (fun b s₂ hb => ?_) fun _ _ h => h)
  have fin : ∀ f s', WidJ h₀ L news s (WidP n₀ k.toNat) f s' → Q f s' := fun f s' hj => by
    obtain ⟨rfl, h', tk', m', n', many', t1, t2, rfl, F, N, e1, e2, p⟩ := hj.out
    exact h2 h' tk' m' n' many' t1 t2 p (fr_fix F e1 e2) N
  cases b with
  | true => exact wpAny_mono hb fin fun _ _ h => h
  | false => exact wpAny_mono hb fin fun _ _ h => h
theorem widP_start {n₀ n many : Int} (h : bl n + many = bl n₀) (h1 : 1 ≤ n) (hg : ¬ 1 * 2 ^ Int.toNat 64 ≤ n) : WidP n₀ 64 n many := ⟨h1, by rw [Int.one_mul] at hg; exact Int.not_le.mp hg, h⟩
theorem widP_yes' {n₀ n many k : Int} {j : Nat} (h : WidP n₀ j n many) (hg : 1 * 2 ^ k.toNat ≤ n) (h0 : 0 ≤ k) (hj : j = k.toNat + k.toNat) : WidP n₀ k.toNat (n.fdiv (2 ^ k.toNat)) (many + k) := by
  have := widP_yes h hj (by rw [Int.one_mul] at hg; exact hg)
  rw [Int.toNat_of_nonneg h0] at this
  exact this
theorem widP_no' {n₀ n many k : Int} {j : Nat} (h : WidP n₀ j n many) (hg : ¬ 1 * 2 ^ k.toNat ≤ n) : WidP n₀ k.toNat n many := widP_no h (by rw [Int.one_mul] at hg; exact hg)
theorem lines_P13_Wid_1 : True := by
  k_with "exec If" => (
  k_here
  (with_reducible show wpAny _ _ (exec (Stmt.If (Expr.Compare _ _ [Expr.BinOp _ _ (Expr.Name (Str.ofString "step") _) _] _) _ _ _) _) _ _ _)
  (first | (rename WidP _ _ _ _ => wP) | (have wP := widP_start (by assumption) (by assumption) (by assumption)))
  k_dflt (refine wid_if wP (by k_asm) (by k_asm) (by rfl) ?_ ?_)
  rotate_left
  (intro h9 tk9 m9 n9 many9 t91 t92 P9 F9 N9)
  (clear wP)
  rotate_left
  k_whole)
  k_with "WidJ" => (
  exact ⟨rfl, _, _, _, _, _, _, _, rfl, by assumption, by assumption, by rfl, by rfl, by first | exact widP_yes' (by assumption) (by assumption) (by decide) (by rfl) | exact widP_no' (by assumption) (by assumption)⟩)
  trivial
set_option maxHeartbeats 8000000 in
theorem c_width {w : World} : ∀ (mean : ExcName → Option Value) (mg mb : Str → Option Value) (news : List (Addr × Obj)) (n₀ : Int) (t : Tok) (_ : 1 ≤ n₀), Claim w mean mg mb 21 1 news [.int n₀ t] (fun t => .int (bl n₀) t) := by
  intros mean mg mb news n₀ t hn dp un gd cn cs a ccd cl outer A₀ base h₀ L m s Q E HB HF HK HN HT hk hd hu hret
  walk_at "mine enter"
  (k_with "exec While Compare cons nil" => k_while (fun _ n many => 1 ≤ n ∧ bl n + many = bl n₀) (fun _ n _ => n.toNat) "n" "many")
  (k_with "measure" => exact wid_meas (by assumption))
  (k_with "state" => exact wid_turn (by assumption) (by assumption) (by assumption))
  k_steps
  all_goals exact end_int hret (by assumption) (by assumption) (by assumption) (widP_end (by assumption))
theorem lines_P13_Wid_2 : True := by
  k_with "mine claimP" => (
  (with_reducible show Claim0 _ _ _ _ 21 _ _ _ _)
  (with_reducible exact c_width _ _ _ _ _ _ (by walk_at "mine pr")))
  trivial

theorem part_P14_Quo : True := by
  w_top off
  trivial
/- a number of no sign, of at most k bits -/
def Sm (k : Nat) (x : Int) : Prop := 0 ≤ x ∧ x < 2 ^ k
theorem Sm.bits {k : Nat} {x : Int} (h : Sm k x) : Builtin.Int.intBits x ≤ k := by
  refine intBits_le ?_
  obtain ⟨m, rfl⟩ := Int.eq_ofNat_of_zero_le h.1
  have := h.2
  simp only [Int.natAbs_natCast]
  exact_mod_cast this
theorem Sm.nn {k : Nat} {x : Int} (h : Sm k x) : 0 ≤ x := h.1
theorem Sm.shl {k j : Nat} {x n : Int} (h : Sm k x) (hn : n ≤ j) : Sm (k + j) (x * 2 ^ n.toNat) := by
  have hp : (0 : Int) < 2 ^ n.toNat := Int.pow_pos (by decide)
  refine ⟨Int.mul_nonneg h.1 (Int.le_of_lt hp), ?_⟩
  rw [Int.pow_add]
  have h1 : x * 2 ^ n.toNat < 2 ^ k * 2 ^ n.toNat := Int.mul_lt_mul_of_pos_right h.2 hp
  have h2 : (2 : Int) ^ n.toNat ≤ 2 ^ j := by
    have : n.toNat ≤ j := by omega
    exact_mod_cast Nat.pow_le_pow_right (by decide) this
  have h3 : (2 : Int) ^ k * 2 ^ n.toNat ≤ 2 ^ k * 2 ^ j := Int.mul_le_mul_of_nonneg_left h2 (Int.le_of_lt (Int.pow_pos (by decide)))
  omega
theorem Sm.log2 {k : Nat} {x : Int} (h : Sm k x) (h1 : 1 ≤ x) (hk : k < 9000) : x.natAbs.log2 < 9000 := by
  obtain ⟨m, rfl⟩ := Int.eq_ofNat_of_zero_le h.1
  have h2 := h.2
  simp only [Int.natAbs_natCast]
  have h3 : m < 2 ^ k := by exact_mod_cast h2
  have : m.log2 < k := (Nat.log2_lt (by omega)).2 h3
  omega
section
variable {prog : Program} {w : World} {A : Around} {E : Value → Shared → Prop} {s : Shared} {t u : Tok} {Q : Value → Shared → Prop} {a b n : Int} {k : Nat}
theorem lshift_sm (h : Sm k a) (h0 : 0 ≤ n) (h1 : n ≤ 100000) (hk : k ≤ 100000) (hQ : Q (.int (a * 2 ^ n.toNat) s.toks) { s with toks := s.toks + 1 }) :
    wpAny (model prog w) A (binaryOp .LShift (.int a t) (.int n u)) Q E s := lshift_int h0 (by have := h.bits; omega) hQ
theorem fdiv_sm (h : Sm k b) (h1 : 1 ≤ b) (hk : k < 9000) (hQ : Q (.int (a.fdiv b) s.toks) { s with toks := s.toks + 1 }) :
    wpAny (model prog w) A (binaryOp .FloorDiv (.int a t) (.int b u)) Q E s := floordiv_int (by omega) hQ (Or.inl (PyProof.noPylong_of_log2 (h.log2 h1 hk)))
theorem fmod_sm (h1 : 1 ≤ b) (hQ : Q (.int (a.fmod b) s.toks) { s with toks := s.toks + 1 }) :
    wpAny (model prog w) A (binaryOp .Mod (.int a t) (.int b u)) Q E s := mod_int' (by omega) hQ
end
theorem shl_pos {b n : Int} (h : 1 ≤ b) : 1 ≤ b * 2 ^ n.toNat := by
  have hp : (0 : Int) < 2 ^ n.toNat := Int.pow_pos (by decide)
  have := Int.mul_pos (show 0 < b by omega) hp
  omega
def qT (top power : Int) : Int := if 0 ≤ power then top else top * 2 ^ (-power).toNat
def qB (bottom power : Int) : Int := if 0 ≤ power then bottom * 2 ^ power.toNat else bottom
theorem lines_P14_Quo_1 : True := by
  k_with "binaryOp LShift int int" => (
  k_here
  (with_reducible show wpAny _ _ (binaryOp Operator.LShift (Value.int _ _) (Value.int _ _)) _ _ _)
  (with_reducible refine lshift_sm (by assumption) (by omega) (by omega) (by decide) ?_))
  k_with "binaryOp FloorDiv int int" => (
  k_here
  (with_reducible show wpAny _ _ (binaryOp Operator.FloorDiv (Value.int _ _) (Value.int _ _)) _ _ _)
  (first
    | (with_reducible refine fdiv_sm (by assumption) (by omega) (by decide) ?_)
    | (with_reducible refine fdiv_sm (Sm.shl (j := 3000) (by assumption) (by omega)) (shl_pos (by omega)) (by decide) ?_)))
  k_with "binaryOp Mod int int" => (
  k_here
  (with_reducible show wpAny _ _ (binaryOp Operator.Mod (Value.int _ _) (Value.int _ _)) _ _ _)
  (rename Sm 3000 _ => hSm')
  (first
    | (with_reducible refine fmod_sm (by omega) ?_)
    | (with_reducible refine fmod_sm (shl_pos (by omega)) ?_)))
  trivial
def wq (top bottom p : Int) : Int := (qT top p).fdiv (qB bottom p)
def wr (top bottom p : Int) : Int := (qT top p).fmod (qB bottom p)
set_option maxHeartbeats 8000000 in
theorem c_quotient {w : World} : ∀ (mean : ExcName → Option Value) (mg mb : Str → Option Value) (news : List (Addr × Obj)) (top bottom power : Int) (t t2 t3 : Tok) (_ : Sm 3000 top) (_ : Sm 3000 bottom) (_ : 1 ≤ bottom) (_ : -3000 ≤ power) (_ : power ≤ 3000),
    ClaimT w mean mg mb 56 1 news [.int top t, .int bottom t2, .int power t3] (fun t1 t2 t3 => #[.int (wq top bottom power) t1, .int (wr top bottom power) t2, .int (qB bottom power) t3]) := by
  intros mean mg mb news top bottom power t t2 t3 hst hsb hb hp1 hp2 dp un gd cn cs a ccd cl outer A₀ base h₀ L m s Q E HB HF HK HN HT hk hd hu hret
  walk_at "mine enter"
  k_steps
  all_goals (refine' end_tup hret (by assumption) (by assumption) (by assumption) (by assumption) (by k_mem) ?e; (case e => (unfold wq wr qT qB; first | (rw [if_pos (by assumption), if_pos (by assumption)]; done) | (rw [if_neg (by assumption), if_neg (by assumption)]; done))))
theorem lines_P14_Quo_2 : True := by
  k_with "mine claimT" => (
  (with_reducible show Claim0 _ _ _ _ 56 _ _ _ _)
  (with_reducible exact c_quotient _ _ _ _ _ _ _ _ _ _ (by walk_at "mine pr") (by walk_at "mine pr") (by walk_at "mine pr") (by walk_at "mine pr") (by walk_at "mine pr")))
  trivial

theorem part_P15_Asm : True := by
  w_top off
  trivial
set_option maxHeartbeats 8000000 in
theorem c_signed {w : World} : ∀ (mean : ExcName → Option Value) (mg mb : Str → Option Value) (news : List (Addr × Obj)) (t t2 : Tok),
    Claim w mean mg mb 49 1 news [.int 0 t, .int 9218868437227405312 t2] (fun t => .int 9218868437227405312 t) := by
  intros mean mg mb news t t2 dp un gd cn cs a ccd cl outer A₀ base h₀ L m s Q E HB HF HK HN HT hk hd hu hret
  walk_at "mine enter"
  k_steps
  all_goals (refine end_int hret (by assumption) (by assumption) (by assumption) ?_)
  all_goals rfl
theorem pack_eq {e f : Int} (he : 0 ≤ e) (h0 : 0 ≤ f) (h : f < 4503599627370496) : Builtin.bitOr (Builtin.bitOr (0 * 2 ^ Int.toNat 63) (e * 2 ^ Int.toNat 52)) f = e * 4503599627370496 + f := by
  rw [Int.zero_mul, or_zero_l]
  exact or_shl he h0 h
set_option maxHeartbeats 8000000 in
theorem c_pack {w : World} : ∀ (mean : ExcName → Option Value) (mg mb : Str → Option Value) (news : List (Addr × Obj)) (e f : Int) (t t2 t3 : Tok) (_ : 0 ≤ e) (_ : e < 10000) (_ : 0 ≤ f) (_ : f < 4503599627370496),
    Claim w mean mg mb 28 1 news [.int 0 t, .int e t2, .int f t3] (fun t => .int (e * 4503599627370496 + f) t) := by
  intros mean mg mb news e f t t2 t3 he0 he1 hf0 hf1 dp un gd cn cs a ccd cl outer A₀ base h₀ L m s Q E HB HF HK HN HT hk hd hu hret
  walk_at "mine enter"
  k_steps
  all_goals (refine end_int hret (by assumption) (by assumption) (by assumption) ?_)
  all_goals exact pack_eq he0 hf0 hf1
theorem lines_P15_Asm_1 : True := by
  k_with "mine claimP" => (
  (with_reducible show Claim0 _ _ _ _ 49 _ _ _ _)
  (with_reducible exact c_signed _ _ _ _ _ _))
  trivial
theorem lines_P15_Asm_2 : True := by
  k_with "mine claimP" => (
  (with_reducible show Claim0 _ _ _ _ 28 _ _ _ _)
  (with_reducible exact c_pack _ _ _ _ _ _ _ _ _ (by first | walk_at "mine pr" | walk_at "mine prem c_pack") (by first | walk_at "mine pr" | walk_at "mine prem c_pack") (by first | walk_at "mine pr" | walk_at "mine prem c_pack") (by first | walk_at "mine pr" | walk_at "mine prem c_pack")))
  trivial
theorem asm_lt {whole : Int} (h : whole ≠ 4503599627370496 * 2 ^ Int.toNat 1) (h1 : whole ≤ 9007199254740992) : whole - 4503599627370496 < 4503599627370496 := by
  have e : (4503599627370496 : Int) * 2 ^ Int.toNat 1 = 9007199254740992 := rfl
  rw [e] at h; omega
theorem lines_P15_Asm_3 : True := by
  k_with "mine prem c_pack" => exact asm_lt (by assumption) (by assumption)
  trivial
def INFB : Int := 9218868437227405312
/- the double's bits of the rounded quotient 'whole' at the power -/
def asm (whole power : Int) : Int := if (power + 1074) * 4503599627370496 + whole < INFB then (power + 1074) * 4503599627370496 + whole else INFB
set_option maxHeartbeats 8000000 in
theorem c_assembled {w : World} : ∀ (mean : ExcName → Option Value) (mg mb : Str → Option Value) (news : List (Addr × Obj)) (whole power : Int) (t t2 t3 : Tok) (_ : 0 ≤ whole) (_ : whole ≤ 9007199254740992) (_ : -1074 ≤ power) (_ : power ≤ 5000) (_ : whole < 4503599627370496 → power = -1074),
    Claim w mean mg mb 70 2 news [.int 0 t, .int whole t2, .int power t3] (fun t => .int (asm whole power) t) := by
  intros mean mg mb news whole power t t2 t3 hw0 hw1 hp0 hp1 hsub dp un gd cn cs a ccd cl outer A₀ base h₀ L m s Q E HB HF HK HN HT hk hd hu hret
  walk_at "mine enter"
  k_steps
  all_goals (refine end_int hret (by assumption) (by assumption) (by assumption) ?_)
  all_goals (have e9 : (2 : Int) ^ Int.toNat 1 = 2 := rfl)
  all_goals (unfold asm INFB)
  all_goals first
    | (rw [if_pos (by omega)]; omega)
    | (rw [if_neg (by omega)])
    | (rw [Int.zero_mul, or_zero_l, if_pos (by omega)]; omega)
theorem lines_P15_Asm_4 : True := by
  k_with "mine claimP" => (
  (with_reducible show Claim0 _ _ _ _ 70 _ _ _ _)
  (with_reducible exact c_assembled _ _ _ _ _ _ _ _ _ (by first | walk_at "mine pr" | walk_at "mine prem c_assembled") (by first | walk_at "mine pr" | walk_at "mine prem c_assembled") (by first | walk_at "mine pr" | walk_at "mine prem c_assembled") (by first | walk_at "mine pr" | walk_at "mine prem c_assembled") (by first | walk_at "mine pr" | walk_at "mine prem c_assembled")))
  trivial

theorem part_P16_RR : True := by
  w_top off
  trivial
def SC : Nat := 2 ^ 1074
theorem SC_split {j : Nat} (h : j ≤ 1074) : SC = 2 ^ j * 2 ^ (1074 - j) := by
  unfold SC; rw [← Nat.pow_add]; congr 1; omega
theorem scale {n d : Nat} {p : Int} (hp : -1074 ≤ p) : ∃ k a b : Nat, 0 < k ∧ qT (n : Int) p = a ∧ qB (d : Int) p = b ∧ a * k = n * SC ∧ b * k = d * 2 ^ (p + 1074).toNat := by
  by_cases h : 0 ≤ p
  · refine ⟨SC, n, d * 2 ^ p.toNat, Nat.two_pow_pos _, by unfold qT; rw [if_pos h], by unfold qB; rw [if_pos h, Int.natCast_mul, Int.natCast_pow]; rfl, rfl, ?_⟩
    have e : (p + 1074).toNat = p.toNat + 1074 := by omega
    rw [e, Nat.pow_add, Nat.mul_assoc]; rfl
  · refine ⟨2 ^ (1074 - (-p).toNat), n * 2 ^ (-p).toNat, d, Nat.two_pow_pos _, by unfold qT; rw [if_neg h, Int.natCast_mul, Int.natCast_pow]; rfl, by unfold qB; rw [if_neg h], ?_, ?_⟩
    · rw [Nat.mul_assoc, ← SC_split (by omega)]
    · have e : (p + 1074).toNat = 1074 - (-p).toNat := by omega
      rw [e]
def wW (top bottom p : Int) : Int := if qB bottom p < 2 * wr top bottom p ∨ (2 * wr top bottom p = qB bottom p ∧ (wq top bottom p).fmod 2 = 1) then wq top bottom p + 1 else wq top bottom p
theorem wq_eq {n d : Nat} {p : Int} (hp : -1074 ≤ p) : wq n d p = ((n * SC / (d * 2 ^ (p + 1074).toNat) : Nat) : Int) := by
  obtain ⟨k, a, b, hk, e1, e2, e3, e4⟩ := @scale n d p hp
  unfold wq
  rw [e1, e2, ← e3, ← e4, Nat.mul_div_mul_right _ _ hk]
  exact Int.fdiv_eq_ediv_of_nonneg _ (by omega)
theorem wW_eq {n d : Nat} {p : Int} (hp : -1074 ≤ p) : wW n d p = ((rnd (n * SC) (d * 2 ^ (p + 1074).toNat) : Nat) : Int) := by
  obtain ⟨k, a, b, hk, e1, e2, e3, e4⟩ := @scale n d p hp
  unfold wW wq wr
  rw [e1, e2, ← e3, ← e4, rnd_mul hk]
  have f1 : ((a : Int)).fdiv (b : Int) = ((a / b : Nat) : Int) := Int.fdiv_eq_ediv_of_nonneg _ (by omega)
  have f2 : ((a : Int)).fmod (b : Int) = ((a % b : Nat) : Int) := by rw [Int.fmod_eq_emod_of_nonneg _ (by omega)]; rfl
  have f3 : (((a / b : Nat) : Int)).fmod 2 = (((a / b) % 2 : Nat) : Int) := by rw [Int.fmod_eq_emod_of_nonneg _ (by omega)]; rfl
  rw [f1, f2, f3]
  unfold rnd
  by_cases hc : b < 2 * (a % b) ∨ (2 * (a % b) = b ∧ (a / b) % 2 = 1)
  · rw [if_pos hc, if_pos (by omega)]; rfl
  · rw [if_neg hc, if_neg (by omega)]
theorem p_hi {n d P : Nat} (hd : 0 < d) (h : n.log2 + 1 + 1074 ≤ 54 + d.log2 + P) : n * SC < 18014398509481984 * (d * 2 ^ P) := by
  have h1 : n < 2 ^ (n.log2 + 1) := bl_hi
  have h2 := bl_lo hd
  calc n * SC < 2 ^ (n.log2 + 1) * SC := Nat.mul_lt_mul_of_pos_right h1 (Nat.two_pow_pos _)
    _ = 2 ^ (n.log2 + 1 + 1074) := by unfold SC; rw [← Nat.pow_add]
    _ ≤ 2 ^ (54 + d.log2 + P) := Nat.pow_le_pow_right (by decide) h
    _ = 18014398509481984 * (2 ^ d.log2 * 2 ^ P) := by rw [Nat.pow_add, Nat.pow_add, Nat.mul_assoc]
    _ ≤ 18014398509481984 * (d * 2 ^ P) := Nat.mul_le_mul_left _ (Nat.mul_le_mul_right _ h2)
theorem p_lo {n d P : Nat} (hn : 0 < n) (h : 53 + d.log2 + P ≤ n.log2 + 1074) : 4503599627370496 * (d * 2 ^ P) ≤ n * SC := by
  have h1 : d < 2 ^ (d.log2 + 1) := bl_hi
  have h2 := bl_lo hn
  calc 4503599627370496 * (d * 2 ^ P) ≤ 4503599627370496 * (2 ^ (d.log2 + 1) * 2 ^ P) := Nat.mul_le_mul_left _ (Nat.mul_le_mul_right _ (Nat.le_of_lt h1))
    _ = 2 ^ 52 * (2 ^ (d.log2 + 1) * 2 ^ P) := rfl
    _ = 2 ^ (53 + d.log2 + P) := by rw [← Nat.pow_add, ← Nat.pow_add]; congr 1; omega
    _ ≤ 2 ^ (n.log2 + 1074) := Nat.pow_le_pow_right (by decide) h
    _ = 2 ^ n.log2 * SC := by unfold SC; rw [← Nat.pow_add]
    _ ≤ n * SC := Nat.mul_le_mul_right _ h2
def pw0 (top bottom : Int) : Int := if bl top - bl bottom - 53 < -1074 then -1074 else bl top - bl bottom - 53
def pw (top bottom : Int) : Int := if 9007199254740992 ≤ wq top bottom (pw0 top bottom) then pw0 top bottom + 1 else pw0 top bottom
def rr (top bottom : Int) : Int := asm (wW top bottom (pw top bottom)) (pw top bottom)
theorem pw0_ge {top bottom : Int} : -1074 ≤ pw0 top bottom := by unfold pw0; split <;> omega
theorem pw_ge {top bottom : Int} : -1074 ≤ pw top bottom := by have := @pw0_ge top bottom; unfold pw; split <;> omega
theorem pw_spec {n d : Nat} (hn : 0 < n) (hd : 0 < d) : ((pw n d + 1074).toNat = 0 ∨ 4503599627370496 * (d * 2 ^ (pw n d + 1074).toNat) ≤ n * SC) ∧ n * SC < 9007199254740992 * (d * 2 ^ (pw n d + 1074).toNat) := by
  have e0 := @pw0_ge n d
  have hP : 0 < d * 2 ^ (pw0 (n : Int) d + 1074).toNat := Nat.mul_pos hd (Nat.two_pow_pos _)
  have hi : n * SC < 18014398509481984 * (d * 2 ^ (pw0 (n : Int) d + 1074).toNat) := p_hi hd (by
    unfold pw0 bl; simp only [Int.toNat_natCast]; split <;> omega)
  unfold pw
  rw [wq_eq e0]
  by_cases h : 9007199254740992 ≤ n * SC / (d * 2 ^ (pw0 (n : Int) d + 1074).toNat)
  · rw [if_pos (by generalize n * SC / (d * 2 ^ (pw0 (n : Int) d + 1074).toNat) = x at *; omega)]
    have e : (pw0 (n : Int) d + 1 + 1074).toNat = (pw0 (n : Int) d + 1074).toNat + 1 := by omega
    have e3 : d * 2 ^ ((pw0 (n : Int) d + 1074).toNat + 1) = d * 2 ^ (pw0 (n : Int) d + 1074).toNat * 2 := by rw [Nat.pow_succ, ← Nat.mul_assoc]
    rw [e, e3]
    have h' := (Nat.le_div_iff_mul_le hP).1 h
    clear h e e3
    generalize d * 2 ^ (pw0 (n : Int) d + 1074).toNat = y at *
    generalize n * SC = x at *
    constructor
    · right; omega
    · omega
  · rw [if_neg (by generalize n * SC / (d * 2 ^ (pw0 (n : Int) d + 1074).toNat) = x at *; omega)]
    have h' : n * SC < 9007199254740992 * (d * 2 ^ (pw0 (n : Int) d + 1074).toNat) := (Nat.div_lt_iff_lt_mul hP).1 (Nat.lt_of_not_le h)
    refine ⟨?_, h'⟩
    by_cases h0 : (pw0 (n : Int) d + 1074).toNat = 0
    · exact Or.inl h0
    · right
      refine p_lo hn ?_
      revert h0
      unfold pw0 bl; simp only [Int.toNat_natCast]; split <;> omega
theorem rr_Rd {n d : Nat} (hn : 0 < n) (hd : 0 < d) : Rd SC n d (rr n d) := by
  have hs := pw_spec hn hd
  refine ⟨(pw n d + 1074).toNat, hs.1, hs.2, ?_⟩
  have hg := @pw_ge n d
  unfold rr
  rw [wW_eq hg]
  unfold asm INFB
  have e : (((pw (n : Int) d + 1074).toNat : Nat) : Int) = pw (n : Int) d + 1074 := by omega
  rw [e]
theorem wq_facts {n d : Nat} (hn : 0 < n) (hd : 0 < d) : 0 ≤ wq n d (pw n d) ∧ wq n d (pw n d) < 9007199254740992 ∧ (wq n d (pw n d) < 4503599627370496 → pw n d = -1074) := by
  have hs := pw_spec hn hd
  have hg := @pw_ge n d
  have hP : 0 < d * 2 ^ (pw (n : Int) d + 1074).toNat := Nat.mul_pos hd (Nat.two_pow_pos _)
  rw [wq_eq hg]
  refine ⟨by generalize n * SC / (d * 2 ^ (pw (n : Int) d + 1074).toNat) = x at *; omega, ?_, fun hl => ?_⟩
  · have := (Nat.div_lt_iff_lt_mul hP).2 hs.2
    generalize n * SC / (d * 2 ^ (pw (n : Int) d + 1074).toNat) = x at *; omega
  · rcases hs.1 with h | h
    · omega
    · exfalso
      have := (Nat.le_div_iff_mul_le hP).2 h
      generalize n * SC / (d * 2 ^ (pw (n : Int) d + 1074).toNat) = x at *; omega
theorem bl_le {k : Nat} {x : Int} (h : Sm k x) (h1 : 1 ≤ x) : 1 ≤ bl x ∧ bl x ≤ k := by
  obtain ⟨m, rfl⟩ := Int.eq_ofNat_of_zero_le h.1
  have h2 := h.2
  have h3 : m < 2 ^ k := by exact_mod_cast h2
  have : m.log2 < k := (Nat.log2_lt (by omega)).2 h3
  unfold bl
  simp only [Int.toNat_natCast]
  omega

theorem part_P17_Rat : True := by
  w_top off
  trivial
/- what is known of the power and the quotient that round_ratio settles on -/
structure RatF (top bottom p : Int) : Prop where
  eq : p = pw top bottom
  lo : 0 ≤ wq top bottom p
  hi : wq top bottom p < 9007199254740992
  sub : wq top bottom p < 4503599627370496 → p = -1074
  pge : -1074 ≤ p
  ple : p ≤ 5000
theorem ratF_of {top bottom : Int} (hst : Sm 3000 top) (hsb : Sm 3000 bottom) (ht : 1 ≤ top) (hb : 1 ≤ bottom) : RatF top bottom (pw top bottom) := by
  obtain ⟨x1, x2⟩ := bl_le hst ht
  obtain ⟨x3, x4⟩ := bl_le hsb hb
  have hg := @pw_ge top bottom
  have hl : pw top bottom ≤ 5000 := by
    have : pw0 top bottom ≤ 4000 := by unfold pw0; split <;> omega
    unfold pw; split <;> omega
  obtain ⟨n, rfl⟩ := Int.eq_ofNat_of_zero_le hst.1
  obtain ⟨d, rfl⟩ := Int.eq_ofNat_of_zero_le hsb.1
  obtain ⟨f1, f2, f3⟩ := @wq_facts n d (by omega) (by omega)
  exact ⟨rfl, f1, f2, f3, hg, hl⟩
theorem rat_B {top bottom : Int} (h : 4503599627370496 * 2 ^ Int.toNat 1 ≤ wq top bottom (pw0 top bottom)) (hst : Sm 3000 top) (hsb : Sm 3000 bottom) (ht : 1 ≤ top) (hb : 1 ≤ bottom) : RatF top bottom (pw0 top bottom + 1) := by
  have e : pw top bottom = pw0 top bottom + 1 := by unfold pw; exact if_pos h
  exact e ▸ ratF_of hst hsb ht hb
theorem rat_A {top bottom : Int} (h : ¬ 4503599627370496 * 2 ^ Int.toNat 1 ≤ wq top bottom (pw0 top bottom)) (hst : Sm 3000 top) (hsb : Sm 3000 bottom) (ht : 1 ≤ top) (hb : 1 ≤ bottom) : RatF top bottom (pw0 top bottom) := by
  have e : pw top bottom = pw0 top bottom := by unfold pw; exact if_neg h
  exact e ▸ ratF_of hst hsb ht hb
/- what is known of W, the rounded quotient -/
structure RatW (top bottom p W : Int) : Prop where
  eq : asm W p = rr top bottom
  lo : 0 ≤ W
  hi : W ≤ 9007199254740992
  sub : W < 4503599627370496 → p = -1074
  pge : -1074 ≤ p
  ple : p ≤ 5000
theorem ratW_of {top bottom p W : Int} (F : RatF top bottom p) (h : wW top bottom p = W) (h2 : W = wq top bottom p ∨ W = wq top bottom p + 1) : RatW top bottom p W := by
  have h3 := F.lo
  have h4 := F.hi
  have h5 := F.sub
  refine ⟨?_, by omega, by omega, fun hl => h5 (by omega), F.pge, F.ple⟩
  unfold rr; rw [← F.eq, h]
section
variable {top bottom p : Int} (F : RatF top bottom p)
include F
theorem RatF.up1 (h : qB bottom p < 2 * wr top bottom p) : RatW top bottom p (wq top bottom p + 1) := ratW_of F (by unfold wW; rw [if_pos (Or.inl h)]) (Or.inr rfl)
theorem RatF.up2 (h : 2 * wr top bottom p = qB bottom p) (h2 : (wq top bottom p).fmod 2 = 1) : RatW top bottom p (wq top bottom p + 1) := ratW_of F (by unfold wW; rw [if_pos (Or.inr ⟨h, h2⟩)]) (Or.inr rfl)
theorem RatF.dn1 (h1 : ¬ qB bottom p < 2 * wr top bottom p) (h : 2 * wr top bottom p ≠ qB bottom p) : RatW top bottom p (wq top bottom p) := ratW_of F (by unfold wW; rw [if_neg (fun q => q.elim h1 fun q => h q.1)]) (Or.inl rfl)
theorem RatF.dn2 (h1 : ¬ qB bottom p < 2 * wr top bottom p) (h : (wq top bottom p).fmod 2 ≠ 1) : RatW top bottom p (wq top bottom p) := ratW_of F (by unfold wW; rw [if_neg (fun q => q.elim h1 fun q => h q.2)]) (Or.inl rfl)
end
theorem max_pw {prog : Program} {w : World} {A : Around} {E : Value → Shared → Prop} {s : Shared} {h₀ : Heap} {L : Addr} {m : Str → Option Value} {news : List (Addr × Obj)} {top bottom : Int} {t u : Tok} {Q : Value → Shared → Prop} (hh : A.handled = none) (F : Fr h₀ L s.heap m) (N : News h₀ L s.heap news)
    (h : ∀ (h' : Heap) (tk : Nat) (t' : Tok), Fr h₀ L h' m → News h₀ L h' news → Q (.int (pw0 top bottom) t') { s with heap := h', toks := tk }) :
    wpAny (model prog w) A (call (.builtin "max") [.int (bl top - bl bottom - 53) t, .int (-1074) u]) Q E s := max_two_N hh F N fun h' tk f n => h h' tk _ f n
theorem fr_one {h₀ h : Heap} {L : Addr} {m : Str → Option Value} {x : Str} {a : Value} (F : Fr h₀ L h m) (h1 : m x = some a) : Fr h₀ L h (fun z => if z = x then some a else m z) := by
  have e : (fun z => if z = x then some a else m z) = m := by
    funext z
    by_cases hx : z = x
    · rw [if_pos hx, hx, h1]
    · rw [if_neg hx]
  rw [e]; exact F
theorem if_join {M : Model} {A : Around} {E : Value → Shared → Prop} {s : Shared} {env : Env} {test : Expr} {body orelse : List Stmt} {pos : Pos} {Q : Flow → Shared → Prop} (J : Flow → Shared → Prop)
    (h1 : wpAny M A (isTrue test env (eval test env)) (fun b s₂ => if b = true then wpAny M A (execs body env) J E s₂ else wpAny M A (execs orelse env) J E s₂) E s) (h2 : ∀ f s', J f s' → Q f s') :
    wpAny M A (exec (.If test body orelse pos) env) Q E s := by
  refine wpAny_If (wpAny_mono h1 (fun b s₂ hb => ?_) fun _ _ h => h)
  cases b with
  | true => exact wpAny_mono hb h2 fun _ _ h => h
  | false => exact wpAny_mono hb h2 fun _ _ h => h
/- where the arms of round_ratio's first if meet -/
structure RJ (g : Heap) (L : Addr) (top bottom : Int) (s : Shared) (f : Flow) (s' : Shared) : Prop where
  out : f = .next ∧ ∃ (h' : Heap) (tk' : Nat) (m' : Str → Option Value) (p : Int) (t0 t1 t2 t3 t4 : Tok), s' = { s with heap := h', toks := tk' } ∧ Fr g L h' m' ∧ m' (Str.ofString "sign") = some (.int 0 t0) ∧ m' (Str.ofString "power") = some (.int p t1) ∧
    m' (Str.ofString "whole") = some (.int (wq top bottom p) t2) ∧ m' (Str.ofString "rest") = some (.int (wr top bottom p) t3) ∧ m' (Str.ofString "unit") = some (.int (qB bottom p) t4) ∧ RatF top bottom p
/- where the arms of its second if meet -/
structure RK (g : Heap) (L : Addr) (top bottom : Int) (s : Shared) (f : Flow) (s' : Shared) : Prop where
  out : f = .next ∧ ∃ (h' : Heap) (tk' : Nat) (m' : Str → Option Value) (p W : Int) (t0 t1 t2 : Tok), s' = { s with heap := h', toks := tk' } ∧ Fr g L h' m' ∧ m' (Str.ofString "sign") = some (.int 0 t0) ∧ m' (Str.ofString "power") = some (.int p t1) ∧
    m' (Str.ofString "whole") = some (.int W t2) ∧ RatW top bottom p W
section
variable {M : Model} {A : Around} {E : Value → Shared → Prop} {s : Shared} {env : Env} {test : Expr} {body orelse : List Stmt} {pos : Pos} {Q : Flow → Shared → Prop} {g : Heap} {L : Addr} {m : Str → Option Value} (top bottom : Int)
theorem rat_if1 (_F : Fr g L s.heap m)
    (h1 : wpAny M A (isTrue test env (eval test env)) (fun b s₂ => if b = true then wpAny M A (execs body env) (fun f s' => RJ g L top bottom s f s') E s₂ else wpAny M A (execs orelse env) (fun f s' => RJ g L top bottom s f s') E s₂) E s)
    (h2 : ∀ (h' : Heap) (tk' : Nat) (m' : Str → Option Value) (p : Int) (t0 t1 t2 t3 t4 : Tok), RatF top bottom p →
      Fr g L h' (fun z => if z = Str.ofString "sign" then some (.int 0 t0) else if z = Str.ofString "power" then some (.int p t1) else if z = Str.ofString "whole" then some (.int (wq top bottom p) t2) else
        if z = Str.ofString "rest" then some (.int (wr top bottom p) t3) else if z = Str.ofString "unit" then some (.int (qB bottom p) t4) else m' z) → News g L h' [] → Q .next { s with heap := h', toks := tk' }) :
    wpAny M A (exec (.If test body orelse pos) env) Q E s :=
  if_join (fun f s' => RJ g L top bottom s f s') h1 fun f s' hj => by
    obtain ⟨rfl, h', tk', m', p, t0, t1, t2, t3, t4, rfl, F, e0, e1, e2, e3, e4, R⟩ := hj.out
    exact h2 h' tk' m' p t0 t1 t2 t3 t4 R (fr_one (fr_one (fr_one (fr_one (fr_one F e4) ((if_neg (by decide +kernel)).trans e3)) ((if_neg (by decide +kernel)).trans ((if_neg (by decide +kernel)).trans e2))) ((if_neg (by decide +kernel)).trans ((if_neg (by decide +kernel)).trans ((if_neg (by decide +kernel)).trans e1))))
      ((if_neg (by decide +kernel)).trans ((if_neg (by decide +kernel)).trans ((if_neg (by decide +kernel)).trans ((if_neg (by decide +kernel)).trans e0))))) News.nil
theorem rat_if2 (_F : Fr g L s.heap m)
    (h1 : wpAny M A (isTrue test env (eval test env)) (fun b s₂ => if b = true then wpAny M A (execs body env) (fun f s' => RK g L top bottom s f s') E s₂ else wpAny M A (execs orelse env) (fun f s' => RK g L top bottom s f s') E s₂) E s)
    (h2 : ∀ (h' : Heap) (tk' : Nat) (m' : Str → Option Value) (p W : Int) (t0 t1 t2 : Tok), RatW top bottom p W →
      Fr g L h' (fun z => if z = Str.ofString "sign" then some (.int 0 t0) else if z = Str.ofString "power" then some (.int p t1) else if z = Str.ofString "whole" then some (.int W t2) else m' z) → News g L h' [] → Q .next { s with heap := h', toks := tk' }) :
    wpAny M A (exec (.If test body orelse pos) env) Q E s :=
  if_join (fun f s' => RK g L top bottom s f s') h1 fun f s' hj => by
    obtain ⟨rfl, h', tk', m', p, W, t0, t1, t2, rfl, F, e0, e1, e2, R⟩ := hj.out
    exact h2 h' tk' m' p W t0 t1 t2 R (fr_one (fr_one (fr_one F e2) ((if_neg (by decide +kernel)).trans e1)) ((if_neg (by decide +kernel)).trans ((if_neg (by decide +kernel)).trans e0))) News.nil
end
theorem lines_P17_Rat_1 : True := by
  k_with "eval Call" => (
  k_here
  (with_reducible show wpAny _ _ (eval (Expr.Call (Expr.Name (Str.ofString "quotient") _) _ _ _) _) _ _ _)
  k_dflt (refine Call_ ?_))
  k_with "call builtin:max" => (
  k_here
  (with_reducible show wpAny _ _ (call (Value.builtin "max") [Value.int (bl _ - bl _ - 53) _, Value.int (-1074) _]) _ _ _)
  k_dflt (refine max_pw (by with_unfolding_all rfl) (by k_asm) (by k_asm) (fun h9 tk9 t9 F9 N9 => ?_)))
  k_with "exec If" => (
  k_here
  (with_reducible show wpAny _ _ (exec (Stmt.If (Expr.Compare (Expr.Name (Str.ofString "whole") _) [CmpOp.GtE] _ _) _ _ _) _) _ _ _)
  k_dflt (refine rat_if1 top bottom (by k_asm) ?_ (fun h9 tk9 m9 p9 t90 t91 t92 t93 t94 R9 F9 N9 => ?_)))
  k_with "exec If" => (
  k_here
  (with_reducible show wpAny _ _ (exec (Stmt.If (Expr.BoolOp _ (Expr.Compare (Expr.BinOp _ _ _ _) _ _ _ :: _) _) _ _ _) _) _ _ _)
  k_dflt (refine rat_if2 top bottom (by k_asm) ?_ (fun h9 tk9 m9 p9 W9 t90 t91 t92 R9 F9 N9 => ?_)))
  k_with "RJ" => k_dflt (exact RJ.mk ⟨rfl, _, _, _, _, _, _, _, _, _, rfl, by assumption, by rfl, by rfl, by rfl, by rfl, by rfl, by first | exact rat_B (by assumption) hst hsb ht hb | exact rat_A (by assumption) hst hsb ht hb⟩)
  k_with "RK" => k_dflt (exact RK.mk ⟨rfl, _, _, _, _, _, _, _, _, rfl, by assumption, by rfl, by rfl, by rfl,
  by first | exact RatF.up1 (by assumption) (by assumption) | exact RatF.up2 (by assumption) (by assumption) (by assumption) | exact RatF.dn1 (by assumption) (by assumption) (by assumption) | exact RatF.dn2 (by assumption) (by assumption) (by assumption)⟩)
  k_with "mine prem c_assembled" => (with_reducible first | exact RatW.lo (by assumption) | exact RatW.hi (by assumption) | exact RatW.sub (by assumption) | exact RatW.pge (by assumption) | exact RatW.ple (by assumption))
  trivial
set_option maxHeartbeats 8000000 in
theorem c_round_ratio {w : World} : ∀ (mean : ExcName → Option Value) (mg mb : Str → Option Value) (news : List (Addr × Obj)) (top bottom : Int) (t t2 t3 : Tok) (_ : Sm 3000 top) (_ : Sm 3000 bottom) (_ : 1 ≤ top) (_ : 1 ≤ bottom),
    Claim w mean mg mb 63 3 news [.int 0 t, .int top t2, .int bottom t3] (fun t => .int (rr top bottom) t) := by
  intros mean mg mb news top bottom t t2 t3 hst hsb ht hb dp un gd cn cs a ccd cl outer A₀ base h₀ L m s Q E HB HF HK HN HT hk hd hu hret
  obtain ⟨x1, x2⟩ := bl_le hst ht
  obtain ⟨x3, x4⟩ := bl_le hsb hb
  have x5 := @pw0_ge top bottom
  have x6 : pw0 top bottom ≤ 2999 := by unfold pw0; split <;> omega
  walk_at "mine enter"
  k_steps
  all_goals first
    | (exfalso; omega)
    | exact end_int hret (by assumption) (by assumption) (by assumption) (RatW.eq (by assumption))
theorem lines_P17_Rat_2 : True := by
  k_with "mine claimP" => (
  (with_reducible show Claim0 _ _ _ _ 63 _ _ _ _)
  (with_reducible exact c_round_ratio _ _ _ _ _ _ _ _ _ (by first | walk_at "mine pr" | walk_at "mine prem c_round_ratio") (by first | walk_at "mine pr" | walk_at "mine prem c_round_ratio") (by first | walk_at "mine pr" | walk_at "mine prem c_round_ratio") (by first | walk_at "mine pr" | walk_at "mine prem c_round_ratio")))
  trivial

theorem part_P18_Wor : True := by
  w_top off
  trivial
/- the worth of the k figures from the place a on -/
def dvs (l : List Nat) (a k : Nat) : Int := ((NumText.digitsVal ((l.drop a).take k) : Nat) : Int)
theorem dvs_zero {l : List Nat} {a : Nat} : dvs l a 0 = 0 := by simp [dvs, NumText.digitsVal]
theorem dvs_succ {l : List Nat} {a k : Nat} (h : a + k < l.length) (hd : Dg (l.getD (a + k) 0)) : dvs l a k * 10 + figOf (l.getD (a + k) 0) = dvs l a (k + 1) := by
  have e : (l.drop a).take (k + 1) = (l.drop a).take k ++ [l.getD (a + k) 0] := by
    rw [List.take_add_one, List.getElem?_drop, List.getElem?_eq_getElem h]
    simp [h]
  unfold dvs
  rw [e, NumText.digitsVal_snoc, figOf_dg hd]
  unfold Dg at hd
  omega
theorem worth_fold {l : List Nat} {a : Nat} : ∀ k : Nat, a + k ≤ l.length → (∀ j, a ≤ j → j < a + k → Dg (l.getD j 0)) →
    (rangeKs (a : Int) k).foldl (fun a' k' => a' * 10 + figOf (l.getD k'.toNat 0)) 0 = dvs l a k
  | 0, _, _ => dvs_zero.symm
  | k + 1, h, hd => by
    have e : rangeKs (a : Int) (k + 1) = rangeKs (a : Int) k ++ [((a + k : Nat) : Int)] := by
      unfold rangeKs; rw [List.range_succ, List.map_append]; rfl
    rw [e, List.foldl_append, worth_fold k (by omega) (fun j h1 h2 => hd j h1 (by omega))]
    simp only [List.foldl_cons, List.foldl_nil, Int.toNat_natCast]
    exact dvs_succ (by omega) (hd _ (by omega) (by omega))
theorem worth_end {l : List Nat} {n₀ n₁ : Nat} (h01 : n₀ ≤ n₁) (h1l : n₁ ≤ l.length) (hdg : ∀ j, n₀ ≤ j → j < n₁ → Dg (l.getD j 0)) :
    (rangeKs (n₀ : Int) ((n₁ : Int) - (n₀ : Int)).toNat).foldl (fun a' k' => a' * 10 + figOf (l.getD k'.toNat 0)) 0 = dvs l n₀ (n₁ - n₀) := by
  have e : ((n₁ : Int) - (n₀ : Int)).toNat = n₁ - n₀ := by omega
  rw [e]
  exact worth_fold _ (by omega) (fun j h1 h2 => hdg j h1 (by omega))
set_option maxHeartbeats 8000000 in
theorem c_worth {w : World} : ∀ (mean : ExcName → Option Value) (mg mb : Str → Option Value) (news : List (Addr × Obj)) (l : List Nat) (t t2 t3 t4 : Tok) (n₀ n₁ : Nat) (_ : l.length ≤ 2000) (_ : n₀ ≤ n₁) (_ : n₁ ≤ l.length)
    (_ : ∀ j, n₀ ≤ j → j < n₁ → Dg (l.getD j 0)), Claim w mean mg mb 119 2 news [.str (mkS l) t, .int (n₀ : Int) t2, .int (n₁ : Int) t3, .int 10 t4] (fun t => .int (dvs l n₀ (n₁ - n₀)) t) := by
  intros mean mg mb news l t t2 t3 t4 n₀ n₁ hl h01 h1l hdg dp un gd cn cs a ccd cl outer A₀ base h₀ L m s Q E HB HF HK HN HT hk hd hu hret
  walk_at "mine enter"
  k_steps
  all_goals exact end_int hret (by assumption) (by assumption) (by assumption) (worth_end h01 h1l hdg)
theorem c_worth0 {w : World} : ∀ (mean : ExcName → Option Value) (mg mb : Str → Option Value) (news : List (Addr × Obj)) (l : List Nat) (t t2 t3 t4 : Tok) (_ : l.length ≤ 2000)
    (_ : ∀ c ∈ l, Dg c), Claim w mean mg mb 119 2 news [.str (mkS l) t, .int 0 t2, .int (l.length : Int) t3, .int 10 t4] (fun t => .int ((NumText.digitsVal l : Nat) : Int) t) := by
  intro mean mg mb news l t t2 t3 t4 hl hd
  have h := c_worth (w := w) mean mg mb news l t t2 t3 t4 0 l.length hl (Nat.zero_le _) (Nat.le_refl _) (fun j _ h => by
    rw [List.getD_eq_getElem?_getD, List.getElem?_eq_getElem h]
    exact hd _ (List.getElem_mem h))
  have e : dvs l 0 (l.length - 0) = ((NumText.digitsVal l : Nat) : Int) := by
    unfold dvs; rw [List.drop_zero, Nat.sub_zero, List.take_length]
  rw [e] at h
  exact h
theorem lines_P18_Wor_1 : True := by
  k_with "mine claimP" => (
  (with_reducible show Claim0 _ _ _ _ 119 _ _ _ _)
  (with_reducible exact c_worth0 _ _ _ _ _ _ _ _ _ (by walk_at "mine pr") (by walk_at "mine pr")))
  trivial

theorem part_P19_Mac : True := by
  w_top off
  trivial
theorem one_eq {c d : Nat} (h : c = d) : [c] = [d] := by rw [h]
theorem one_ne {c d : Nat} (h : c ≠ d) : [c] ≠ [d] := fun q => h (by injection q)
theorem lines_P19_Mac_1 : True := by
  k_with "mine lit" => with_reducible first | exact rfl | exact lit_nil | exact lit_0 | exact lit_dot | exact lit_e | exact lit_E | exact lit_plus | exact lit_minus | exact lit_pm | exact lit_eE | exact lit_end | exact lit_0x | exact lit_0X | exact lit_000e
  k_with "mine nat" => with_reducible first | exact nat_add1 _ | exact nat_sub1 _ _ | exact nat_sub _ _ | exact Int.toNat_natCast _ | exact rfl
  k_with "mine len" => first | omega | (simp only [List.length_append, List.length_cons, List.length_nil, List.length_replicate, List.length_drop, List.length_take]; omega)
  k_with "mine yes" => with_reducible first | assumption | exact one_eq (by assumption)
  k_with "mine no" => with_reducible first | assumption | exact one_ne (by assumption)
  k_with "mine res" => with_reducible first | assumption | exact rfl
  k_with "call builtin:len" => (
  k_here
  (with_reducible show wpAny _ _ (call (Value.builtin "len") [Value.str _ _]) _ _ _)
  refine len_m (by walk_at "mine lit") (by walk_at "mine len") ?_)
  k_with "subscriptTail Name Name str int" => (
  k_here
  (with_reducible show wpAny _ _ (subscriptTail _ _ (Value.str (mkS _) _) (Value.int _ _)) _ _ _)
  refine item_m (by walk_at "mine lit") (by walk_at "mine nat") (by walk_at "mine len") (by omega) (by omega) ?_)
  k_with "subscriptTail Name BinOp str int" => (
  k_here
  (with_reducible show wpAny _ _ (subscriptTail _ _ (Value.str (mkS _) _) (Value.int _ _)) _ _ _)
  refine item_m (by walk_at "mine lit") (by walk_at "mine nat") (by walk_at "mine len") (by omega) (by omega) ?_)
  k_with "subscriptTail Name Slice str ref" => (
  k_here
  (with_reducible show wpAny _ _ (subscriptTail _ (Expr.Slice (some _) (some _) none _) (Value.str (mkS _) _) _) _ _ _)
  refine slice_ss_m (s := ⟨_, _, _, _, _⟩) (by walk_at "mine lit") (by k_asm) (by k_asm) (by walk_at "mine nat") (by walk_at "mine nat") (by omega) (by omega) (by omega) (by walk_at "mine len") (by walk_at "mine res") ?_
  intro h9 t9 k9 F9 N9)
  k_with "subscriptTail Name Slice str ref" => (
  k_here
  (with_reducible show wpAny _ _ (subscriptTail _ (Expr.Slice none (some _) none _) (Value.str (mkS _) _) _) _ _ _)
  refine slice_ns_m (s := ⟨_, _, _, _, _⟩) (by walk_at "mine lit") (by k_asm) (by k_asm) (by walk_at "mine nat") (by omega) (by omega) (by walk_at "mine len") ?_
  intro h9 t9 k9 F9 N9)
  k_with "subscriptTail Name Slice str ref" => (
  k_here
  (with_reducible show wpAny _ _ (subscriptTail _ (Expr.Slice (some _) none none _) (Value.str (mkS _) _) _) _ _ _)
  refine slice_sn_m (s := ⟨_, _, _, _, _⟩) (by walk_at "mine lit") (by k_asm) (by k_asm) (by walk_at "mine nat") (by omega) (by omega) (by walk_at "mine len") ?_
  intro h9 t9 k9 F9 N9)
  k_with "compareOp Eq str str" => (
  k_here
  (with_reducible show wpAny _ _ (compareOp CmpOp.Eq (Value.str (mkS _) _) (Value.str _ _)) _ _ _)
  first
    | refine eq_m_t (by walk_at "mine lit") (by walk_at "mine lit") (by walk_at "mine yes") ?_
    | refine eq_m_f (by walk_at "mine lit") (by walk_at "mine lit") (by walk_at "mine no") ?_
    | refine eq_m (by walk_at "mine lit") (by walk_at "mine lit") ?_)
  k_with "binaryOp Add str str" => (
  k_here
  (with_reducible show wpAny _ _ (binaryOp Operator.Add (Value.str _ _) (Value.str _ _)) _ _ _)
  refine add_m (by walk_at "mine lit") (by walk_at "mine lit") (by walk_at "mine res") (by walk_at "mine len") (by walk_at "mine len") ?_
  intro t9 k9)
  k_with "call builtin:str.lstrip" => (
  k_here
  (with_reducible show wpAny _ _ (call (Value.builtin "str.lstrip") [Value.str (mkS _) _, Value.str _ _]) _ _ _)
  refine lstrip_m (by with_reducible assumption) (by walk_at "mine len") ?_
  intro t9 k9)
  k_with "binaryOp Mult str int" => (
  k_here
  (with_reducible show wpAny _ _ (binaryOp Operator.Mult (Value.str _ _) (Value.int _ _)) _ _ _)
  refine mul_m (by walk_at "mine lit") (by walk_at "mine nat") (by omega) (by omega) ?_
  intro t9 k9)
  trivial

theorem part_P20_Dec : True := by
  w_top off
  trivial
/- what from_decimal makes of the number n times ten to e -/
def fdv (n : Int) (e : Int) : Int := if n = 0 then 0 else if 0 ≤ e then rr (n * 10 ^ e.toNat) 1 else rr n (10 ^ (0 - e).toNat)
theorem digits_lt : ∀ (l : List Nat), (∀ c ∈ l, Dg c) → NumText.digitsVal l < 10 ^ l.length := by
  intro l
  have key : ∀ (l : List Nat) (a : Nat), (∀ c ∈ l, Dg c) → l.foldl (fun acc c => acc * 10 + (c - 48)) a < (a + 1) * 10 ^ l.length := by
    intro l
    induction l with
    | nil => intro a _; simp
    | cons c r ih =>
      intro a h
      have hc := h c (List.mem_cons_self ..)
      have := ih (a * 10 + (c - 48)) (fun x hx => h x (List.mem_cons_of_mem _ hx))
      rw [List.foldl_cons]
      refine Nat.lt_of_lt_of_le this ?_
      rw [List.length_cons, Nat.pow_succ, ← Nat.mul_assoc, Nat.mul_right_comm]
      refine Nat.mul_le_mul_right _ ?_
      unfold Dg at hc
      omega
  intro h
  have := key l 0 h
  simpa [NumText.digitsVal] using this
theorem strip_val : ∀ (l : List Nat), NumText.digitsVal (l.dropWhile (· == 48)) = NumText.digitsVal l
  | [] => rfl
  | c :: r => by
    by_cases h : c = 48
    · subst h
      rw [List.dropWhile_cons_of_pos (by rfl), strip_val r, NumText.digitsVal_zero]
    · rw [List.dropWhile_cons_of_neg (by simpa using h)]
theorem strip_head {l : List Nat} {c : Nat} {r : List Nat} (h : l.dropWhile (· == 48) = c :: r) : c ≠ 48 := by
  induction l with
  | nil => cases h
  | cons a q ih =>
    by_cases ha : a = 48
    · subst ha; rw [List.dropWhile_cons_of_pos (by rfl)] at h; exact ih h
    · rw [List.dropWhile_cons_of_neg (by simpa using ha)] at h
      injection h with h1 _
      exact h1 ▸ ha
theorem strip_pos {l k : List Nat} (hk : l.dropWhile (· == 48) = k) (hd : ∀ c ∈ k, Dg c) (hne : k ≠ []) : 1 ≤ ((NumText.digitsVal k : Nat) : Int) := by
  cases k with
  | nil => exact absurd rfl hne
  | cons c r =>
    have h1 := strip_head hk
    have h2 := hd c (List.mem_cons_self ..)
    unfold Dg at h2
    have := NumText.digitsVal_pos (c := c) (cs := r) (by omega)
    omega
theorem drop_len : ∀ (l : List Nat), (l.dropWhile (· == 48)).length ≤ l.length
  | [] => Nat.le_refl _
  | c :: r => by
    rw [List.dropWhile_cons]
    split
    · have := drop_len r; rw [List.length_cons]; omega
    · exact Nat.le_refl _
theorem drop_mem {c : Nat} : ∀ (l : List Nat), c ∈ l.dropWhile (· == 48) → c ∈ l
  | [], h => h
  | a :: r, h => by
    rw [List.dropWhile_cons] at h
    split at h
    · exact List.mem_cons_of_mem _ (drop_mem r h)
    · exact h
theorem sm_digits {l : List Nat} (hl : l.length ≤ 60) (hd : ∀ c ∈ l, Dg c) : Sm 200 ((NumText.digitsVal l : Nat) : Int) := by
  refine ⟨Int.natCast_nonneg _, ?_⟩
  have h1 := digits_lt l hd
  have h2 : 10 ^ l.length ≤ 10 ^ 60 := Nat.pow_le_pow_right (by decide) hl
  have h3 : (10 : Nat) ^ 60 ≤ 2 ^ 200 := by decide +kernel
  have h4 : NumText.digitsVal l < 2 ^ 200 := by omega
  have := Int.ofNat_lt.2 h4
  rw [Int.natCast_pow] at this
  exact this
set_option exponentiation.threshold 2000 in
theorem sm_pow10 {e : Int} (h : e ≤ 400) : Sm 1600 ((10 : Int) ^ e.toNat) := by
  refine ⟨Int.le_of_lt (Int.pow_pos (by decide)), ?_⟩
  have h2 : (10 : Nat) ^ e.toNat < 2 ^ 1600 := by
    have a1 : (10 : Nat) ^ e.toNat ≤ 10 ^ 400 := Nat.pow_le_pow_right (by decide) (by omega)
    have a2 : (10 : Nat) ^ 400 < 2 ^ 1600 := by decide +kernel
    exact Nat.lt_of_le_of_lt a1 a2
  have := Int.ofNat_lt.2 h2
  rw [Int.natCast_pow, Int.natCast_pow] at this
  exact this
theorem Sm.mono {j k : Nat} {x : Int} (h : Sm j x) (hjk : j ≤ k) : Sm k x := by
  refine ⟨h.1, Int.lt_of_lt_of_le h.2 ?_⟩
  have := Nat.pow_le_pow_right (n := 2) (by decide) hjk
  have := Int.ofNat_le.2 this
  rw [Int.natCast_pow, Int.natCast_pow] at this
  exact this
theorem Sm.mul {j k : Nat} {x y : Int} (h : Sm j x) (h2 : Sm k y) : Sm (j + k) (x * y) := by
  refine ⟨Int.mul_nonneg h.1 h2.1, ?_⟩
  rw [Int.pow_add]
  have hp : (0 : Int) < 2 ^ k := Int.pow_pos (by decide)
  exact Int.lt_of_le_of_lt (Int.mul_le_mul_of_nonneg_left (Int.le_of_lt h2.2) h.1) (Int.mul_lt_mul_of_pos_right h.2 hp)
theorem dec_top {n e : Int} (h : Sm 200 n) (he : e ≤ 400) : Sm 3000 (n * 10 ^ e.toNat) := (h.mul (sm_pow10 he)).mono (by decide)
theorem dec_bot {e : Int} (he : e ≤ 400) : Sm 3000 ((10 : Int) ^ e.toNat) := (sm_pow10 he).mono (by decide)
theorem dec_one : Sm 3000 1 := ⟨by decide, by rw [show (2 : Int) ^ 3000 = 2 ^ (1 + 2999) from rfl, Int.pow_add]; have : (0 : Int) < 2 ^ 2999 := Int.pow_pos (by decide); omega⟩
theorem dec_p10 {k : Nat} : 1 ≤ (10 : Int) ^ k := by have : (0 : Int) < 10 ^ k := Int.pow_pos (by decide); omega
theorem dec_pos {n : Int} {k : Nat} (h : 1 ≤ n) : 1 ≤ n * 10 ^ k := by
  have := Int.mul_pos (show 0 < n by omega) (show (0 : Int) < 10 ^ k from Int.pow_pos (by decide)); omega
theorem dec_pos3 {n : Int} {k : List Nat} (hp : k ≠ [] → 1 ≤ n) (h : decide (k = []) = false) : 1 ≤ n := hp (of_decide_eq_false h)
theorem dec_pos2 {n : Int} {j : Nat} {k : List Nat} (hp : k ≠ [] → 1 ≤ n) (h : decide (k = []) = false) : 1 ≤ n * 10 ^ j := dec_pos (hp (of_decide_eq_false h))
theorem mul_sm {prog : Program} {w : World} {A : Around} {E : Value → Shared → Prop} {s : Shared} {a e : Int} {t u : Tok} {Q : Value → Shared → Prop} (h1 : Sm 200 a) (he : e ≤ 400) (h : Q (.int (a * 10 ^ e.toNat) s.toks) { s with toks := s.toks + 1 }) :
    wpAny (model prog w) A (binaryOp .Mult (.int a t) (.int (10 ^ e.toNat) u)) Q E s := mul_int h (IntMulOk.of_le h1.bits (sm_pow10 he).bits (by decide))
theorem fdv_zero {l k : List Nat} {e : Int} (hv : NumText.digitsVal k = NumText.digitsVal l) (h : k = []) : 0 = fdv ((NumText.digitsVal l : Nat) : Int) e := by
  subst h
  rw [← hv]; rfl
theorem fdv_up {l k : List Nat} {e : Int} (hv : NumText.digitsVal k = NumText.digitsVal l) (hp : 1 ≤ ((NumText.digitsVal k : Nat) : Int)) (h : 0 ≤ e) : rr (((NumText.digitsVal k : Nat) : Int) * 10 ^ e.toNat) 1 = fdv ((NumText.digitsVal l : Nat) : Int) e := by
  unfold fdv; rw [← hv, if_neg (by omega), if_pos h]
theorem fdv_dn {l k : List Nat} {e : Int} (hv : NumText.digitsVal k = NumText.digitsVal l) (hp : 1 ≤ ((NumText.digitsVal k : Nat) : Int)) (h : ¬ 0 ≤ e) : rr ((NumText.digitsVal k : Nat) : Int) (10 ^ (0 - e).toNat) = fdv ((NumText.digitsVal l : Nat) : Int) e := by
  unfold fdv; rw [← hv, if_neg (by omega), if_neg h]
theorem lines_P20_Dec_1 : True := by
  k_with "binaryOp Mult int int" => (
  k_here
  (with_reducible show wpAny _ _ (binaryOp Operator.Mult (Value.int _ _) (Value.int (10 ^ Int.toNat _) _)) _ _ _)
  (with_reducible refine mul_sm (by assumption) (by omega) ?_))
  k_with "mine prem c_round_ratio" => with_reducible first | exact dec_top (by assumption) (by omega) | exact dec_bot (by omega) | exact dec_one | exact dec_pos (by assumption) | exact dec_pos2 (by assumption) (by assumption) | exact dec_pos3 (by assumption) (by assumption) | exact dec_p10 | exact Sm.mono (by assumption) (by decide) | assumption
  trivial
set_option maxHeartbeats 8000000 in
theorem c_from_decimal {w : World} : ∀ (mean : ExcName → Option Value) (mg mb : Str → Option Value) (news : List (Addr × Obj)) (l : List Nat) (e : Int) (t t2 : Tok) (_ : l.length ≤ 60) (_ : ∀ c ∈ l, Dg c) (_ : -380 ≤ e) (_ : e ≤ 300),
    Claim w mean mg mb 126 4 news [.str (mkS l) t, .int e t2] (fun t => .int (fdv (NumText.digitsVal l : Nat) e) t) := by
  intros mean mg mb news l e t t2 hl hdg he0 he1 dp un gd cn cs a ccd cl outer A₀ base h₀ L m s Q E HB HF HK HN HT hk hd hu hret
  obtain ⟨k, hk'⟩ : ∃ k, l.dropWhile (· == 48) = k := ⟨_, rfl⟩
  have hkl : k.length ≤ 60 := hk' ▸ Nat.le_trans (drop_len l) hl
  have hkd : ∀ c ∈ k, Dg c := fun c hc => hdg c (drop_mem l (hk' ▸ hc))
  have hkv : NumText.digitsVal k = NumText.digitsVal l := hk' ▸ strip_val l
  have hks := sm_digits hkl hkd
  have hkp := strip_pos hk' hkd
  walk_at "mine enter"
  k_steps
  all_goals (refine end_int hret (by assumption) (by assumption) (by assumption) ?_)
  all_goals first
    | with_reducible exact fdv_zero hkv (of_decide_eq_true (by assumption))
    | with_reducible exact fdv_up hkv (hkp (of_decide_eq_false (by assumption))) (by assumption)
    | with_reducible exact fdv_dn hkv (hkp (of_decide_eq_false (by assumption))) (by assumption)
theorem lines_P20_Dec_2 : True := by
  k_with "mine claimP" => (
  (with_reducible show Claim0 _ _ _ _ 126 _ _ _ _)
  (with_reducible exact c_from_decimal _ _ _ _ _ _ _ _ (by walk_at "mine pr") (by walk_at "mine pr") (by walk_at "mine pr") (by walk_at "mine pr")))
  trivial

theorem part_P21_Sgn : True := by
  w_top off
  trivial
/- the text's sign at i, if one stands there: is it a minus, and the place behind it -/
def SgnI (l : List Nat) (i : Int) (B : Bool) (k : Int) : Prop :=
  0 ≤ i ∧ ((i < l.length ∧ ((l.getD i.toNat 0 = 45 ∧ B = true ∧ k = i + 1) ∨ (l.getD i.toNat 0 = 43 ∧ B = false ∧ k = i + 1) ∨ (l.getD i.toNat 0 ≠ 45 ∧ l.getD i.toNat 0 ≠ 43 ∧ B = false ∧ k = i))) ∨ (l.length ≤ i ∧ B = false ∧ k = i))
theorem sgn_in {l : List Nat} {i k : Int} {B : Bool} (h : SgnI l i B k) (hi : i < l.length) (hc : l.getD i.toNat 0 ∈ [43, 45]) : decide ([l.getD i.toNat 0] = [45]) = B ∧ i + 1 = k := by
  rcases h.2 with ⟨_, h⟩ | ⟨h, _⟩
  · rcases h with ⟨h1, h2, h3⟩ | ⟨h1, h2, h3⟩ | ⟨h1, h2, _⟩
    · rw [h1, h2, h3]; exact ⟨by decide, rfl⟩
    · rw [h1, h2, h3]; exact ⟨by decide, rfl⟩
    · exfalso
      rcases List.mem_cons.mp hc with e | e
      · exact h2 e
      · exact h1 (List.mem_singleton.mp e)
  · omega
theorem sgn_out {l : List Nat} {i k : Int} {B : Bool} (h : SgnI l i B k) (hc : ¬ l.getD i.toNat 0 ∈ [43, 45]) : false = B ∧ i = k := by
  rcases h.2 with ⟨_, h⟩ | ⟨_, h2, h3⟩
  · rcases h with ⟨h1, h2, h3⟩ | ⟨h1, h2, h3⟩ | ⟨_, _, h2, h3⟩
    · exact absurd (by rw [h1]; decide) hc
    · exact absurd (by rw [h1]; decide) hc
    · exact ⟨h2.symm, h3.symm⟩
  · exact ⟨h2.symm, h3.symm⟩
theorem sgn_far {l : List Nat} {i k : Int} {B : Bool} (h : SgnI l i B k) (hi : ¬ i < l.length) : false = B ∧ i = k := by
  rcases h.2 with ⟨h, _⟩ | ⟨_, h2, h3⟩
  · exact absurd h hi
  · exact ⟨h2.symm, h3.symm⟩
section
variable {h₀ h' g : Heap} {L L' : Addr} {m m' : Str → Option Value} {news news' : List (Addr × Obj)} {s : Shared} {Q : Value → Shared → Prop} {D : Addr} {t1 t2 : Tok} {tk' : Nat}
theorem end_tBI {B b : Bool} {k i : Int}
    (hret : RetT h₀ L m news s Q (fun t1 _ _ => #[.bool B, .int k t1])) (C : Carry g h₀ L news) (F' : Fr g L' h' m') (F : Fr h₀ L h' m) (N : News h₀ L h' news')
    (hm : (D, ({ cls := .type "tuple", data := .seq #[.bool b, .int i t1] } : Obj)) ∈ news') (e : b = B ∧ i = k) : Q (.ref D) { s with heap := h', toks := tk' } :=
  end_tup (t1 := t1) (t2 := 0) (t3 := 0) hret C F' F N hm (by rw [e.1, e.2])
theorem end_tII {X x n y : Int}
    (hret : RetT h₀ L m news s Q (fun t1 t2 _ => #[.int X t1, .int n t2])) (C : Carry g h₀ L news) (F' : Fr g L' h' m') (F : Fr h₀ L h' m) (N : News h₀ L h' news')
    (hm : (D, ({ cls := .type "tuple", data := .seq #[.int x t1, .int y t2] } : Obj)) ∈ news') (e : x = X ∧ y = n) : Q (.ref D) { s with heap := h', toks := tk' } :=
  end_tup (t1 := t1) (t2 := t2) (t3 := 0) hret C F' F N hm (by rw [e.1, e.2])
end
theorem in_m_t {prog : Program} {w : World} {A : Around} {E : Value → Shared → Prop} {s : Shared} {t u : Tok} {y : Str} {b : List Nat} {c : Nat} {Q : Value → Shared → Prop} (hy : y = mkS b) (e : c ∈ b) (h : Q (.bool true) s) : wpAny (model prog w) A (compareOp .In (.str (mkS [c]) t) (.str y u)) Q E s := in_m hy (by rw [decide_eq_true e]; exact h)
theorem in_m_f {prog : Program} {w : World} {A : Around} {E : Value → Shared → Prop} {s : Shared} {t u : Tok} {y : Str} {b : List Nat} {c : Nat} {Q : Value → Shared → Prop} (hy : y = mkS b) (e : c ∉ b) (h : Q (.bool false) s) : wpAny (model prog w) A (compareOp .In (.str (mkS [c]) t) (.str y u)) Q E s := in_m hy (by rw [decide_eq_false e]; exact h)
theorem notin_m_f {prog : Program} {w : World} {A : Around} {E : Value → Shared → Prop} {s : Shared} {t u : Tok} {y : Str} {b : List Nat} {c : Nat} {Q : Value → Shared → Prop} (hy : y = mkS b) (e : c ∈ b) (h : Q (.bool false) s) : wpAny (model prog w) A (compareOp .NotIn (.str (mkS [c]) t) (.str y u)) Q E s := notin_m hy (by rw [decide_eq_true e]; exact h)
theorem lines_P21_Sgn_1 : True := by
  k_with "compareOp In str str" => (
  k_here
  (with_reducible show wpAny _ _ (compareOp CmpOp.In (Value.str (mkS [_]) _) (Value.str _ _)) _ _ _)
  first
    | refine in_m_t (by walk_at "mine lit") (by with_reducible assumption) ?_
    | refine in_m_f (by walk_at "mine lit") (by with_reducible assumption) ?_
    | refine in_m (by walk_at "mine lit") ?_)
  k_with "compareOp NotIn str str" => (
  k_here
  (with_reducible show wpAny _ _ (compareOp CmpOp.NotIn (Value.str (mkS [_]) _) (Value.str _ _)) _ _ _)
  first
    | refine notin_m_f (by walk_at "mine lit") (by with_reducible assumption) ?_
    | refine notin_m (by walk_at "mine lit") ?_)
  trivial
set_option maxHeartbeats 8000000 in
theorem c_sign_at {w : World} : ∀ (mean : ExcName → Option Value) (mg mb : Str → Option Value) (news : List (Addr × Obj)) (l : List Nat) (i : Int) (B : Bool) (k : Int) (t t2 : Tok) (_ : l.length ≤ 2000) (_ : SgnI l i B k),
    ClaimT w mean mg mb 133 1 news [.str (mkS l) t, .int i t2] (fun t1 _ _ => #[.bool B, .int k t1]) := by
  intros mean mg mb news l i B k t t2 hl hs dp un gd cn cs a ccd cl outer A₀ base h₀ L m s Q E HB HF HK HN HT hk hd hu hret
  have hi0 := hs.1
  walk_at "mine enter"
  k_steps
  all_goals (refine end_tBI hret (by assumption) (by assumption) (by assumption) (by assumption) (by k_mem) ?_)
  all_goals with_reducible first | exact sgn_in hs (by assumption) (by assumption) | exact sgn_out hs (by assumption) | exact sgn_far hs (by assumption)
theorem lines_P21_Sgn_2 : True := by
  k_with "mine claimT" => (
  (with_reducible show Claim0 _ _ _ _ 133 _ _ _ _)
  (with_reducible exact c_sign_at _ _ _ _ _ _ _ _ _ _ (by walk_at "mine pr") (by walk_at "mine pr")))
  trivial

theorem part_P22_Exp : True := by
  w_top off
  trivial
/- the run of figures from i ends at n -/
def RunI (l : List Nat) (i : Int) (n : Nat) : Prop := ∃ n₀ : Nat, i = (n₀ : Int) ∧ n₀ ≤ n ∧ n ≤ l.length ∧ (∀ j, n₀ ≤ j → j < n → Dg (l.getD j 0)) ∧ (n = l.length ∨ ¬ Dg (l.getD n 0))
/- the figures from i to n are worth v -/
def WorI (l : List Nat) (i : Int) (n : Int) (v : Int) : Prop := ∃ n₀ n₁ : Nat, i = (n₀ : Int) ∧ n = (n₁ : Int) ∧ n₀ ≤ n₁ ∧ n₁ ≤ l.length ∧ (∀ j, n₀ ≤ j → j < n₁ → Dg (l.getD j 0)) ∧ v = dvs l n₀ (n₁ - n₀)
theorem c_runI {w : World} : ∀ (mean : ExcName → Option Value) (mg mb : Str → Option Value) (news : List (Addr × Obj)) (l : List Nat) (i : Int) (n : Nat) (t t2 t3 : Tok) (_ : l.length ≤ 2000) (_ : RunI l i n),
    Claim w mean mg mb 112 2 news [.str (mkS l) t, .int i t2, .int 10 t3] (fun t => .int (n : Int) t) := by
  intro mean mg mb news l i n t t2 t3 hl ⟨n₀, e, h1, h2, h3, h4⟩
  subst e
  exact c_run_end mean mg mb news l t t2 t3 n₀ n hl h1 h2 h3 h4
theorem c_worI {w : World} : ∀ (mean : ExcName → Option Value) (mg mb : Str → Option Value) (news : List (Addr × Obj)) (l : List Nat) (i n v : Int) (t t2 t3 t4 : Tok) (_ : l.length ≤ 2000) (_ : WorI l i n v),
    Claim w mean mg mb 119 2 news [.str (mkS l) t, .int i t2, .int n t3, .int 10 t4] (fun t => .int v t) := by
  intro mean mg mb news l i n v t t2 t3 t4 hl ⟨n₀, n₁, e, e2, h1, h2, h3, h4⟩
  subst e; subst e2; subst h4
  exact c_worth mean mg mb news l t t2 t3 t4 n₀ n₁ hl h1 h2 h3
theorem lines_P22_Exp_1 : True := by
  k_with "mine claimP" => (
  (with_reducible show Claim0 _ _ _ _ 112 _ _ _ _)
  (with_reducible exact c_runI _ _ _ _ _ _ _ _ _ _ (by walk_at "mine pr") (by walk_at "mine pr")))
  trivial
theorem lines_P22_Exp_2 : True := by
  k_with "mine claimP" => (
  (with_reducible show Claim0 _ _ _ _ 119 _ _ _ _)
  (with_reducible exact c_worI _ _ _ _ _ _ _ _ _ _ _ _ (by walk_at "mine pr") (by walk_at "mine pr")))
  trivial
theorem exp_nb {B : Bool} (h : B = false) : ¬ (B = true) := by rw [h]; decide
theorem exp_min {v : Int} (h : v ≤ 1000000000) : (if (10 : Int) ^ Int.toNat 9 < v then (10 : Int) ^ Int.toNat 9 else v) = v := by
  rw [if_neg]
  have e : (10 : Int) ^ Int.toNat 9 = 1000000000 := rfl
  rw [e]; omega
set_option maxHeartbeats 8000000 in
theorem c_exponent_at {w : World} : ∀ (mean : ExcName → Option Value) (mg mb : Str → Option Value) (news : List (Addr × Obj)) (l : List Nat) (i : Int) (B : Bool) (b : Int) (n : Nat) (v : Int) (t t2 : Tok) (_ : l.length ≤ 2000) (_ : 0 ≤ i) (_ : i < l.length)
    (_ : l.getD i.toNat 0 ∈ [101, 69]) (_ : SgnI l (i + 1) B b) (_ : RunI l b n) (_ : WorI l b n v) (_ : b < n) (_ : 0 ≤ v) (_ : v ≤ 1000000000),
    ClaimT w mean mg mb 147 3 news [.str (mkS l) t, .int i t2] (fun t1 t2 _ => #[.int (if B then 0 - v else v) t1, .int n t2]) := by
  intros mean mg mb news l i B b n v t t2 hl hi0 hi1 hc hs hr hw hbn hv0 hv1 dp un gd cn cs a ccd cl outer A₀ base h₀ L m s Q E HB HF HK HN HT hk hd hu hret
  walk_at "mine enter"
  k_steps
  all_goals first
    | (exfalso; omega)
    | (refine end_tII hret (by assumption) (by assumption) (by assumption) (by assumption) (by k_mem) ⟨?_, rfl⟩)
  all_goals first
    | rw [exp_min hv1, if_pos (by assumption)]
    | rw [exp_min hv1, if_neg (exp_nb (by assumption))]
theorem lines_P22_Exp_3 : True := by
  k_with "mine claimT" => (
  (with_reducible show Claim0 _ _ _ _ 147 _ _ _ _)
  (with_reducible exact c_exponent_at _ _ _ _ _ _ _ _ _ _ _ _ (by walk_at "mine pr") (by walk_at "mine pr") (by walk_at "mine pr") (by walk_at "mine pr") (by walk_at "mine pr") (by walk_at "mine pr") (by walk_at "mine pr") (by walk_at "mine pr") (by walk_at "mine pr") (by walk_at "mine pr")))
  trivial

theorem part_P23_DecAt : True := by
  w_top off
  trivial
theorem inf_ne {l : List Nat} {a k : Nat} (h : a < l.length) (hc : l.getD a 0 ≠ 73) : (l.drop a).take k ≠ [73, 110, 102, 105, 110, 105, 116, 121] := by
  intro e
  have e2 := congrArg (fun x => x.getD 0 0) e
  cases k with
  | zero => simp at e
  | succ k =>
    rw [List.drop_eq_getElem_cons h, List.take_succ_cons] at e
    injection e with e1 _
    refine hc ?_
    rw [List.getD_eq_getElem?_getD, List.getElem?_eq_getElem h]
    exact e1
theorem lines_P23_DecAt_1 : True := by
  k_with "mine no" => (with_reducible exact inf_ne (by assumption) (by assumption))
  trivial
set_option maxHeartbeats 8000000 in
theorem c_dec_dot {w : World} : ∀ (mean : ExcName → Option Value) (mg mb : Str → Option Value) (news : List (Addr × Obj)) (l : List Nat) (a p q : Nat) (f : List Nat) (B : Bool) (b : Int) (n : Nat) (v : Int) (t t2 : Tok) (_ : l.length ≤ 2000) (_ : a < l.length) (_ : l.getD a 0 ≠ 73)
    (_ : RunI l a p) (_ : a ≤ p) (_ : p < l.length) (_ : l.getD p 0 = 46) (_ : RunI l ((p : Int) + 1) q) (_ : p + 1 ≤ q) (_ : (l.drop a).take (p - a) ++ (l.drop (p + 1)).take (q - (p + 1)) = f) (_ : f ≠ []) (_ : f.length ≤ 60) (_ : ∀ c ∈ f, Dg c)
    (_ : (q : Int) < l.length) (_ : l.getD (Int.toNat q) 0 ∈ [101, 69]) (_ : SgnI l ((q : Int) + 1) B b) (_ : RunI l b n) (_ : WorI l b n v) (_ : b < n) (_ : 0 ≤ v) (_ : v ≤ 1000000000)
    (_ : -380 ≤ (if B then 0 - v else v) - ((q : Int) - (p : Int) - 1)) (_ : (if B then 0 - v else v) - ((q : Int) - (p : Int) - 1) ≤ 300),
    ClaimT w mean mg mb 154 5 news [.str (mkS l) t, .int (a : Int) t2] (fun t1 t2 _ => #[.int (fdv (NumText.digitsVal f : Nat) ((if B then 0 - v else v) - ((q : Int) - (p : Int) - 1))) t1, .int n t2]) := by
  intros mean mg mb news l a p q f B b n v t t2 hl ha hinf hr1 hap hp hdot hr2 hpq hf hf0 hfl hfd hq hqc hs hr hw hbn hv0 hv1 hx0 hx1 dp un gd cn cs a' ccd cl outer A₀ base h₀ L m s Q E HB HF HK HN HT hk hd hu hret
  walk_at "mine enter"
  k_steps
  all_goals (refine end_tII hret (by assumption) (by assumption) (by assumption) (by assumption) (by k_mem) ⟨by with_reducible rfl, by with_reducible rfl⟩)
theorem sub_zero' {x : Int} : x - 0 = x := Int.sub_zero x
set_option maxHeartbeats 8000000 in
theorem c_dec_no {w : World} : ∀ (mean : ExcName → Option Value) (mg mb : Str → Option Value) (news : List (Addr × Obj)) (l : List Nat) (a p : Nat) (f : List Nat) (B : Bool) (b : Int) (n : Nat) (v : Int) (t t2 : Tok) (_ : l.length ≤ 2000) (_ : a < l.length) (_ : l.getD a 0 ≠ 73)
    (_ : RunI l a p) (_ : a ≤ p) (_ : p < l.length) (_ : l.getD p 0 ≠ 46) (_ : (l.drop a).take (p - a) = f) (_ : f ≠ []) (_ : f.length ≤ 60) (_ : ∀ c ∈ f, Dg c)
    (_ : (p : Int) < l.length) (_ : l.getD (Int.toNat p) 0 ∈ [101, 69]) (_ : SgnI l ((p : Int) + 1) B b) (_ : RunI l b n) (_ : WorI l b n v) (_ : b < n) (_ : 0 ≤ v) (_ : v ≤ 1000000000)
    (_ : -380 ≤ (if B then 0 - v else v) - 0) (_ : (if B then 0 - v else v) - 0 ≤ 300),
    ClaimT w mean mg mb 154 5 news [.str (mkS l) t, .int (a : Int) t2] (fun t1 t2 _ => #[.int (fdv (NumText.digitsVal f : Nat) ((if B then 0 - v else v) - 0)) t1, .int n t2]) := by
  intros mean mg mb news l a p f B b n v t t2 hl ha hinf hr1 hap hp hdot hf hf0 hfl hfd hq hqc hs hr hw hbn hv0 hv1 hx0 hx1 dp un gd cn cs a' ccd cl outer A₀ base h₀ L m s Q E HB HF HK HN HT hk hd hu hret
  walk_at "mine enter"
  k_steps
  all_goals (refine end_tII hret (by assumption) (by assumption) (by assumption) (by assumption) (by k_mem) ⟨by with_reducible rfl, by with_reducible rfl⟩)

theorem part_P24_Blk : True := by
  w_top off
  trivial
theorem in_lit_f {prog : Program} {w : World} {A : Around} {E : Value → Shared → Prop} {s : Shared} {t u : Tok} {x : Str} {c : Nat} {Q : Value → Shared → Prop} (h0 : 43 ≤ c) (h1 : c ≤ 57) (hx : (x.cps.toList.all fun d => decide (d < 43) || decide (57 < d)) = true) (h : Q (.bool false) s) :
    wpAny (model prog w) A (compareOp .In (.str (mkS [c]) t) (.str x u)) Q E s := by
  refine in_m_f (mkS_self x) (fun hm => ?_) h
  have := List.all_eq_true.mp hx c hm
  simp only [Bool.or_eq_true, decide_eq_true_eq] at this
  omega
theorem lines_P24_Blk_1 : True := by
  k_with "compareOp In str str" => (
  k_here
  (with_reducible show wpAny _ _ (compareOp CmpOp.In (Value.str (mkS [_]) _) (Value.str _ _)) _ _ _)
  refine in_lit_f (by with_reducible assumption) (by with_reducible assumption) (by decide +kernel) ?_)
  trivial
set_option maxHeartbeats 8000000 in
theorem c_is_blank {w : World} : ∀ (mean : ExcName → Option Value) (mg mb : Str → Option Value) (news : List (Addr × Obj)) (c : Nat) (t : Tok) (_ : 43 ≤ c) (_ : c ≤ 57),
    Claim w mean mg mb 84 1 news [.str (mkS [c]) t] (fun _ => .bool false) := by
  intros mean mg mb news c t h0 h1 dp un gd cn cs a ccd cl outer A₀ base h₀ L m s Q E HB HF HK HN HT hk hd hu hret
  walk_at "mine enter"
  k_steps
  all_goals exact end_bool hret (by assumption) (by assumption) (by assumption) rfl
theorem lines_P24_Blk_2 : True := by
  k_with "mine claimP" => (
  (with_reducible show Claim0 _ _ _ _ 84 _ _ _ _)
  (with_reducible exact c_is_blank _ _ _ _ _ _ (by walk_at "mine pr") (by walk_at "mine pr")))
  trivial
set_option maxHeartbeats 8000000 in
theorem c_turned {w : World} : ∀ (mean : ExcName → Option Value) (mg mb : Str → Option Value) (news : List (Addr × Obj)) (v : Int) (B : Bool) (t : Tok),
    Claim w mean mg mb 140 1 news [.int v t, .bool B] (fun t => .int (if B then Builtin.bitXor v 9223372036854775808 else v) t) := by
  intros mean mg mb news v B t dp un gd cn cs a ccd cl outer A₀ base h₀ L m s Q E HB HF HK HN HT hk hd hu hret
  walk_at "mine enter"
  k_steps
  all_goals (refine end_int hret (by assumption) (by assumption) (by assumption) ?_)
  all_goals first
    | rw [if_pos (by assumption)]
    | rw [if_neg (exp_nb (by assumption))]
theorem lines_P24_Blk_3 : True := by
  k_with "mine claimP" => (
  (with_reducible show Claim0 _ _ _ _ 140 _ _ _ _)
  (with_reducible exact c_turned _ _ _ _ _ _ _))
  trivial
theorem nat_zero {i : Int} (h : i = 0) : i.toNat = 0 := by omega
theorem lines_P24_Blk_4 : True := by
  k_with "mine nat" => with_reducible first | exact nat_zero (by assumption) | exact nat_add1 _ | exact nat_sub1 _ _ | exact nat_sub _ _ | exact Int.toNat_natCast _ | exact rfl
  trivial
set_option maxHeartbeats 8000000 in
theorem c_skip_blanks {w : World} : ∀ (mean : ExcName → Option Value) (mg mb : Str → Option Value) (news : List (Addr × Obj)) (l : List Nat) (t t2 : Tok) (_ : l.length ≤ 2000) (_ : 0 < l.length) (_ : 43 ≤ l.getD 0 0) (_ : l.getD 0 0 ≤ 57),
    Claim w mean mg mb 91 2 news [.str (mkS l) t, .int 0 t2] (fun t => .int 0 t) := by
  intros mean mg mb news l t t2 hl hl0 h0 h1 dp un gd cn cs a ccd cl outer A₀ base h₀ L m s Q E HB HF HK HN HT hk hd hu hret
  walk_at "mine enter"
  (k_with "exec While BoolOp cons nil" => k_while (fun _ i => i = 0) (fun _ i => 0) "at")
  k_steps
  all_goals exact end_int hret (by assumption) (by assumption) (by assumption) (by assumption)
theorem lines_P24_Blk_5 : True := by
  k_with "mine claimP" => (
  (with_reducible show Claim0 _ _ _ _ 91 _ _ _ _)
  (with_reducible exact c_skip_blanks _ _ _ _ _ _ _ (by walk_at "mine pr") (by walk_at "mine pr") (by walk_at "mine pr") (by walk_at "mine pr")))
  trivial
theorem nat_pred {i : Int} {n : Nat} (h : i = (n : Int)) : (i - 1).toNat = n - 1 := by omega
theorem slice_whole {l : List Nat} {i : Int} (h : i = (l.length : Int)) : (l.drop (Int.toNat 0)).take (i - 0).toNat = l := by
  subst h
  show (l.drop 0).take ((l.length : Int) - 0).toNat = l
  rw [List.drop_zero, Int.sub_zero, Int.toNat_natCast, List.take_length]
theorem lines_P24_Blk_6 : True := by
  k_with "mine nat" => with_reducible first | exact nat_pred (by assumption) | exact nat_zero (by assumption) | exact nat_add1 _ | exact nat_sub1 _ _ | exact nat_sub _ _ | exact Int.toNat_natCast _ | exact rfl
  k_with "mine res" => with_reducible first | exact slice_whole (by assumption) | assumption | exact rfl
  trivial
set_option maxHeartbeats 8000000 in
theorem c_trimmed {w : World} : ∀ (mean : ExcName → Option Value) (mg mb : Str → Option Value) (news : List (Addr × Obj)) (l : List Nat) (t : Tok) (_ : l.length ≤ 2000) (_ : 0 < l.length) (_ : 43 ≤ l.getD 0 0) (_ : l.getD 0 0 ≤ 57) (_ : 43 ≤ l.getD (l.length - 1) 0) (_ : l.getD (l.length - 1) 0 ≤ 57),
    Claim w mean mg mb 98 3 news [.str (mkS l) t] (fun t => .str (mkS l) t) := by
  intros mean mg mb news l t hl hl0 h0 h1 h2 h3 dp un gd cn cs a ccd cl outer A₀ base h₀ L m s Q E HB HF HK HN HT hk hd hu hret
  walk_at "mine enter"
  (k_with "exec While BoolOp cons nil" => k_while (fun _ e => e = (l.length : Int)) (fun _ i => 0) "end")
  k_steps
  all_goals exact end_str hret (by assumption) (by assumption) (by assumption) rfl
theorem lines_P24_Blk_7 : True := by
  k_with "mine claimP" => (
  (with_reducible show Claim0 _ _ _ _ 98 _ _ _ _)
  (with_reducible exact c_trimmed _ _ _ _ _ _ (by walk_at "mine pr") (by walk_at "mine pr") (by walk_at "mine pr") (by walk_at "mine pr") (by walk_at "mine pr") (by walk_at "mine pr")))
  trivial

theorem part_P25_Num : True := by
  w_top off
  trivial
/- decimal_at reads the text l from the place a on as v, to its end -/
def DecH (w : World) (l : List Nat) (a : Nat) (v : Int) : Prop := ∀ (mean : ExcName → Option Value) (mg mb : Str → Option Value) (news : List (Addr × Obj)) (t t2 : Tok),
    ClaimT w mean mg mb 154 5 news [.str (mkS l) t, .int (a : Int) t2] (fun t1 t2 _ => #[.int v t1, .int (l.length : Int) t2])
theorem c_dec_hyp {w : World} : ∀ (mean : ExcName → Option Value) (mg mb : Str → Option Value) (news : List (Addr × Obj)) (l : List Nat) (a : Nat) (v : Int) (t t2 : Tok) (_ : DecH w l a v),
    ClaimT w mean mg mb 154 5 news [.str (mkS l) t, .int (a : Int) t2] (fun t1 t2 _ => #[.int v t1, .int (l.length : Int) t2]) :=
  fun mean mg mb news _ _ _ t t2 h => h mean mg mb news t t2
theorem lines_P25_Num_1 : True := by
  k_with "mine claimT" => (
  (with_reducible show Claim0 _ _ _ _ 154 _ _ _ _)
  (with_reducible exact c_dec_hyp _ _ _ _ _ _ _ _ _ (by walk_at "mine pr")))
  trivial
set_option maxHeartbeats 8000000 in
theorem c_text_to_number {w : World} : ∀ (mean : ExcName → Option Value) (mg mb : Str → Option Value) (news : List (Addr × Obj)) (l : List Nat) (B : Bool) (a : Nat) (v : Int) (t : Tok) (_ : l.length ≤ 2000) (_ : 2 ≤ l.length)
    (_ : 43 ≤ l.getD 0 0) (_ : l.getD 0 0 ≤ 57) (_ : 43 ≤ l.getD (l.length - 1) 0) (_ : l.getD (l.length - 1) 0 ≤ 57) (_ : l ≠ []) (_ : l.take (Int.toNat 2) ≠ [48, 120]) (_ : l.take (Int.toNat 2) ≠ [48, 88]) (_ : SgnI l 0 B (a : Int)) (_ : DecH w l a v),
    Claim w mean mg mb 161 6 news [.str (mkS l) t] (fun t => .int (if B then Builtin.bitXor v 9223372036854775808 else v) t) := by
  intros mean mg mb news l B a v t hl hl2 h0 h1 h2 h3 hne hx hX hs hdec dp un gd cn cs a' ccd cl outer A₀ base h₀ L m s Q E HB HF HK HN HT hk hd hu hret
  walk_at "mine enter"
  k_steps
  all_goals first
    | exact end_int hret (by assumption) (by assumption) (by assumption) (by with_reducible rfl)
    | exact absurd (rfl : ((l.length : Nat) : Int) = (l.length : Int)) (by assumption)

theorem part_P26_Shape : True := by
  w_top off
  trivial
/- all that text_to_number asks of the text l, to read it as v (turned about if B) -/
structure NumOK (w : World) (l : List Nat) (B : Bool) (v : Int) : Prop where
  out : ∃ a : Nat, l.length ≤ 2000 ∧ 2 ≤ l.length ∧ 43 ≤ l.getD 0 0 ∧ l.getD 0 0 ≤ 57 ∧ 43 ≤ l.getD (l.length - 1) 0 ∧ l.getD (l.length - 1) 0 ≤ 57 ∧ l ≠ [] ∧ l.take (Int.toNat 2) ≠ [48, 120] ∧ l.take (Int.toNat 2) ≠ [48, 88] ∧ SgnI l 0 B (a : Int) ∧ DecH w l a v
theorem c_num {w : World} : ∀ (mean : ExcName → Option Value) (mg mb : Str → Option Value) (news : List (Addr × Obj)) (l : List Nat) (B : Bool) (v : Int) (t : Tok) (_ : NumOK w l B v),
    Claim w mean mg mb 161 6 news [.str (mkS l) t] (fun t => .int (if B then Builtin.bitXor v 9223372036854775808 else v) t) := by
  intro mean mg mb news l B v t ⟨⟨a, h1, h2, h3, h4, h5, h6, h7, h8, h9, h10, h11⟩⟩
  exact c_text_to_number mean mg mb news l B a v t h1 h2 h3 h4 h5 h6 h7 h8 h9 h10 h11
theorem getD_l {a b : List Nat} {j : Nat} (h : j < a.length) : (a ++ b).getD j 0 = a.getD j 0 := by
  rw [List.getD_eq_getElem?_getD, List.getD_eq_getElem?_getD, List.getElem?_append_left h]
theorem getD_r {a b : List Nat} {j : Nat} : (a ++ b).getD (a.length + j) 0 = b.getD j 0 := by
  rw [List.getD_eq_getElem?_getD, List.getD_eq_getElem?_getD, List.getElem?_append_right (by omega), Nat.add_sub_cancel_left]
theorem getD_r0 {a b : List Nat} : (a ++ b).getD a.length 0 = b.getD 0 0 := @getD_r a b 0
theorem getD_mem {a : List Nat} {j : Nat} (h : j < a.length) : a.getD j 0 ∈ a := by
  rw [List.getD_eq_getElem?_getD, List.getElem?_eq_getElem h]; exact List.getElem_mem h
theorem mid_dg {l pre ds rest : List Nat} (e : l = pre ++ (ds ++ rest)) (hd : AllDg ds) : ∀ j, pre.length ≤ j → j < pre.length + ds.length → Dg (l.getD j 0) := by
  intro j h1 h2
  obtain ⟨k, rfl⟩ := Nat.le.dest h1
  rw [e, getD_r, getD_l (by omega)]
  exact hd _ (getD_mem (by omega))
theorem run_of {l pre ds rest : List Nat} {i : Int} {n : Nat} (e : l = pre ++ (ds ++ rest)) (hi : i = (pre.length : Int)) (hn : n = pre.length + ds.length) (hd : AllDg ds) (hr : rest = [] ∨ ¬ Dg (rest.getD 0 0)) : RunI l i n := by
  subst hn
  refine ⟨pre.length, hi, by omega, by rw [e]; simp only [List.length_append]; omega, mid_dg e hd, ?_⟩
  rcases hr with rfl | hr
  · left; rw [e]; simp
  · right; rw [e, getD_r, getD_r0]; exact hr
theorem wor_of {l pre ds rest : List Nat} {i n : Int} (e : l = pre ++ (ds ++ rest)) (hi : i = (pre.length : Int)) (hn : n = ((pre.length + ds.length : Nat) : Int)) (hd : AllDg ds) : WorI l i n ((NumText.digitsVal ds : Nat) : Int) := by
  refine ⟨pre.length, pre.length + ds.length, hi, hn, by omega, by rw [e]; simp only [List.length_append]; omega, mid_dg e hd, ?_⟩
  unfold dvs
  rw [Nat.add_sub_cancel_left, e, List.drop_left, List.take_left]
/- a sign or none -/
def IsSg (sx : List Nat) (B : Bool) : Prop := (sx = [] ∧ B = false) ∨ (sx = [43] ∧ B = false) ∨ (sx = [45] ∧ B = true)
theorem sgn_of {l pre sx rest : List Nat} {i k : Int} {B : Bool} (e : l = pre ++ (sx ++ rest)) (hs : IsSg sx B) (hi : i = (pre.length : Int)) (hk : k = ((pre.length + sx.length : Nat) : Int)) (hr0 : rest ≠ []) (h1 : rest.getD 0 0 ≠ 43) (h2 : rest.getD 0 0 ≠ 45) : SgnI l i B k := by
  subst hi; subst hk
  have hrl : 0 < rest.length := List.length_pos_iff.mpr hr0
  have hl : ((pre.length : Nat) : Int) < l.length := by rw [e]; simp only [List.length_append]; omega
  refine ⟨by omega, Or.inl ⟨hl, ?_⟩⟩
  rw [Int.toNat_natCast, e, getD_r0]
  rcases hs with ⟨rfl, rfl⟩ | ⟨rfl, rfl⟩ | ⟨rfl, rfl⟩
  · right; right; exact ⟨h2, h1, rfl, by simp⟩
  · right; left; exact ⟨rfl, rfl, by simp⟩
  · left; exact ⟨rfl, rfl, by simp⟩
theorem mid_eq {l pre ds rest : List Nat} {n : Nat} (e : l = pre ++ (ds ++ rest)) (hn : n = ds.length) : (l.drop pre.length).take n = ds := by
  subst hn
  rw [e, List.drop_left, List.take_left]
theorem sg_chars {sx : List Nat} {B : Bool} (h : IsSg sx B) : ∀ c ∈ sx, c = 43 ∨ c = 45 := by
  intro c hc
  rcases h with ⟨rfl, _⟩ | ⟨rfl, _⟩ | ⟨rfl, _⟩
  · cases hc
  · left; simpa using hc
  · right; simpa using hc
theorem sg_len {sx : List Nat} {B : Bool} (h : IsSg sx B) : sx.length ≤ 1 := by
  rcases h with ⟨rfl, _⟩ | ⟨rfl, _⟩ | ⟨rfl, _⟩ <;> decide
theorem val_le9 {es : List Nat} (h : AllDg es) (hl : es.length ≤ 9) : ((NumText.digitsVal es : Nat) : Int) ≤ 1000000000 := by
  have h1 := digits_lt es h
  have h2 : 10 ^ es.length ≤ 10 ^ 9 := Nat.pow_le_pow_right (by decide) hl
  omega
theorem head_dg {es r : List Nat} (h : AllDg es) (h0 : es ≠ []) : Dg ((es ++ r).getD 0 0) := by
  have hl := List.length_pos_iff.mpr h0
  rw [getD_l hl]; exact h _ (getD_mem hl)

/- the plain facts of a text whose first signs are hd, and whose last are figures -/
theorem num_of {w : World} {l hd' tl es : List Nat} {B : Bool} {v : Int} {a : Nat} (e : l = hd' ++ (tl ++ es)) (hl : l.length ≤ 2000) (h2 : 2 ≤ l.length) (h0 : hd' ≠ []) (hh : ∀ c ∈ hd', 43 ≤ c ∧ c ≤ 57) (ht : ∀ c ∈ tl, c ≠ 120 ∧ c ≠ 88) (hes : AllDg es) (hes0 : es ≠ [])
    (hs : SgnI l 0 B (a : Int)) (hdec : DecH w l a v) : NumOK w l B v := by
  have hhl := List.length_pos_iff.mpr h0
  have hel := List.length_pos_iff.mpr hes0
  have hall : ∀ c ∈ l, c ≠ 120 ∧ c ≠ 88 := by
    intro c hc
    rw [e] at hc
    rcases List.mem_append.mp hc with hc | hc
    · have := hh c hc; omega
    · rcases List.mem_append.mp hc with hc | hc
      · exact ht c hc
      · have := hes c hc; unfold Dg at this; omega
  have hfirst : l.getD 0 0 = hd'.getD 0 0 := by rw [e, getD_l hhl]
  have hf := hh _ (getD_mem hhl)
  have hlast : l.getD (l.length - 1) 0 = es.getD (es.length - 1) 0 := by
    have e2 : l = (hd' ++ tl) ++ es := by rw [e, List.append_assoc]
    have e3 : l.length - 1 = (hd' ++ tl).length + (es.length - 1) := by rw [e2]; simp only [List.length_append]; omega
    rw [e3, e2, getD_r]
  have hg := hes _ (getD_mem (show es.length - 1 < es.length by omega))
  unfold Dg at hg
  refine ⟨⟨a, hl, h2, by omega, by omega, by omega, by omega, ?_, ?_, ?_, hs, hdec⟩⟩
  · intro q; rw [q] at h2; exact absurd h2 (by decide)
  · intro q
    have : (120 : Nat) ∈ l.take (Int.toNat 2) := by rw [q]; decide
    exact (hall _ (List.mem_of_mem_take this)).1 rfl
  · intro q
    have : (88 : Nat) ∈ l.take (Int.toNat 2) := by rw [q]; decide
    exact (hall _ (List.mem_of_mem_take this)).2 rfl

theorem num_dot {w : World} {sg ds fs sx es : List Nat} {ec : Nat} {B BX : Bool} (hsg : IsSg sg B) (hds : AllDg ds) (hfs : AllDg fs) (hf0 : ds ++ fs ≠ []) (hfl : ds.length + fs.length ≤ 60) (hec : ec ∈ [101, 69]) (hsx : IsSg sx BX) (hes : AllDg es) (hes0 : es ≠ []) (hel : es.length ≤ 9)
    (hx0 : -380 ≤ (if BX then 0 - ((NumText.digitsVal es : Nat) : Int) else ((NumText.digitsVal es : Nat) : Int)) - (fs.length : Int)) (hx1 : (if BX then 0 - ((NumText.digitsVal es : Nat) : Int) else ((NumText.digitsVal es : Nat) : Int)) - (fs.length : Int) ≤ 300) :
    NumOK w (sg ++ (ds ++ (46 :: (fs ++ (ec :: (sx ++ es)))))) B (fdv (NumText.digitsVal (ds ++ fs) : Nat) ((if BX then 0 - ((NumText.digitsVal es : Nat) : Int) else ((NumText.digitsVal es : Nat) : Int)) - (fs.length : Int))) := by
  obtain ⟨l, hl⟩ : ∃ l, l = sg ++ (ds ++ (46 :: (fs ++ (ec :: (sx ++ es))))) := ⟨_, rfl⟩
  rw [← hl]
  have s1 := sg_len hsg
  have s2 := sg_len hsx
  have hel1 := List.length_pos_iff.mpr hes0
  have hlen : l.length = sg.length + ds.length + 1 + fs.length + 1 + sx.length + es.length := by
    rw [hl]; simp only [List.length_append, List.length_cons]; omega
  have hfsum : 0 < ds.length + fs.length := by
    have := List.length_pos_iff.mpr hf0; rw [List.length_append] at this; exact this
  have e2 : l = (sg ++ (ds ++ [46])) ++ (fs ++ (ec :: (sx ++ es))) := by rw [hl]; simp only [List.append_assoc, List.cons_append, List.nil_append]
  have e3 : l = (sg ++ (ds ++ (46 :: (fs ++ [ec])))) ++ (sx ++ es) := by rw [hl]; simp only [List.append_assoc, List.cons_append, List.nil_append]
  have e4 : l = (sg ++ (ds ++ (46 :: (fs ++ (ec :: sx))))) ++ (es ++ []) := by rw [hl]; simp only [List.append_assoc, List.cons_append, List.append_nil]
  have hecd : ¬ Dg ec := by
    have hc : ec = 101 ∨ ec = 69 := by simpa using hec
    unfold Dg; omega
  have hhd := head_dg (r := []) hes hes0
  rw [List.append_nil] at hhd
  have L2 : (sg ++ (ds ++ [46])).length = sg.length + ds.length + 1 := by simp only [List.length_append, List.length_cons, List.length_nil]; omega
  have L3 : (sg ++ (ds ++ (46 :: (fs ++ [ec])))).length = sg.length + ds.length + 1 + fs.length + 1 := by simp only [List.length_append, List.length_cons, List.length_nil]; omega
  have L4 : (sg ++ (ds ++ (46 :: (fs ++ (ec :: sx))))).length = sg.length + ds.length + 1 + fs.length + 1 + sx.length := by simp only [List.length_append, List.length_cons]; omega
  have d46 : ((46 : Nat) :: (fs ++ (ec :: (sx ++ es)))).getD 0 0 = 46 := rfl
  have dec : ((ec : Nat) :: (sx ++ es)).getD 0 0 = ec := rfl
  have hsgn : SgnI l 0 B ((sg.length : Nat) : Int) := by
    have key : ∀ c, (ds ++ (46 :: (fs ++ (ec :: (sx ++ es))))).getD 0 0 = c → c ≠ 43 ∧ c ≠ 45 := by
      intro c hc
      by_cases hd0 : ds = []
      · subst hd0; rw [List.nil_append, d46] at hc; rw [← hc]; decide
      · have := head_dg (r := 46 :: (fs ++ (ec :: (sx ++ es)))) hds hd0
        rw [hc] at this; unfold Dg at this; omega
    exact sgn_of (pre := []) (sx := sg) (rest := ds ++ (46 :: (fs ++ (ec :: (sx ++ es))))) (by rw [hl]; rfl) hsg rfl (by simp) (by simp) (key _ rfl).1 (key _ rfl).2
  have ha : l.getD sg.length 0 ≠ 73 := by
    rw [hl, getD_r0]
    by_cases hd0 : ds = []
    · subst hd0; rw [List.nil_append, d46]; decide
    · have := head_dg (r := 46 :: (fs ++ (ec :: (sx ++ es)))) hds hd0
      unfold Dg at this; omega
  have hdec : DecH w l sg.length (fdv (NumText.digitsVal (ds ++ fs) : Nat) ((if BX then 0 - ((NumText.digitsVal es : Nat) : Int) else ((NumText.digitsVal es : Nat) : Int)) - (fs.length : Int))) := by
    intro mean mg mb news t t2
    have hbeh : (((sg.length + ds.length + 1 + fs.length : Nat) : Int) - ((sg.length + ds.length : Nat) : Int) - 1) = (fs.length : Int) := by omega
    have h := c_dec_dot (w := w) mean mg mb news l sg.length (sg.length + ds.length) (sg.length + ds.length + 1 + fs.length) (ds ++ fs) BX ((sg.length + ds.length + 1 + fs.length + 1 + sx.length : Nat) : Int) l.length ((NumText.digitsVal es : Nat) : Int) t t2
      (by omega) (by omega) ha (run_of hl rfl rfl hds (Or.inr (by rw [d46]; unfold Dg; omega))) (by omega) (by omega) (by rw [hl, getD_r, getD_r0]; rfl)
      (run_of e2 (by rw [L2]; omega) (by rw [L2]) hfs (Or.inr (by rw [dec]; exact hecd))) (by omega)
      (by
        have f1 : (l.drop sg.length).take (sg.length + ds.length - sg.length) = ds := mid_eq hl (by omega)
        have f2 : (l.drop (sg.length + ds.length + 1)).take (sg.length + ds.length + 1 + fs.length - (sg.length + ds.length + 1)) = fs := by
          rw [← L2]; exact mid_eq e2 (by rw [L2]; omega)
        rw [f1, f2])
      hf0 (by rw [List.length_append]; exact hfl) (fun c hc => (List.mem_append.mp hc).elim (hds c) (hfs c)) (by omega)
      (by
        rw [Int.toNat_natCast]
        have g : l.getD (sg.length + ds.length + 1 + fs.length) 0 = ec := by
          rw [← L2, e2, getD_r, getD_r0]; rfl
        rw [g]; exact hec)
      (sgn_of e3 hsx (by rw [L3]; omega) (by rw [L3]) hes0 (by unfold Dg at hhd; omega) (by unfold Dg at hhd; omega))
      (run_of e4 (by rw [L4]) (by rw [L4]; omega) hes (Or.inl rfl))
      (wor_of e4 (by rw [L4]) (by rw [L4]; omega) hes)
      (by omega) (Int.natCast_nonneg _) (val_le9 hes hel) (by rw [hbeh]; exact hx0) (by rw [hbeh]; exact hx1)
    rw [hbeh] at h
    exact h
  refine num_of (hd' := sg ++ (ds ++ [46])) (tl := fs ++ (ec :: sx)) (es := es) (by rw [hl]; simp only [List.append_assoc, List.cons_append, List.nil_append]) (by omega) (by omega) (by simp) ?_ ?_ hes hes0 hsgn hdec
  · intro c hc
    rcases List.mem_append.mp hc with hc | hc
    · have := sg_chars hsg c hc; omega
    · rcases List.mem_append.mp hc with hc | hc
      · have := hds c hc; unfold Dg at this; omega
      · have : c = 46 := by simpa using hc
        omega
  · intro c hc
    rcases List.mem_append.mp hc with hc | hc
    · have := hfs c hc; unfold Dg at this; omega
    · rcases List.mem_cons.mp hc with hc | hc
      · have : ec = 101 ∨ ec = 69 := by simpa using hec
        omega
      · have := sg_chars hsx c hc; omega
theorem num_no {w : World} {sg ds sx es : List Nat} {ec : Nat} {B BX : Bool} (hsg : IsSg sg B) (hds : AllDg ds) (hf0 : ds ≠ []) (hfl : ds.length ≤ 60) (hec : ec ∈ [101, 69]) (hsx : IsSg sx BX) (hes : AllDg es) (hes0 : es ≠ []) (hel : es.length ≤ 9)
    (hx0 : -380 ≤ (if BX then 0 - ((NumText.digitsVal es : Nat) : Int) else ((NumText.digitsVal es : Nat) : Int)) - 0) (hx1 : (if BX then 0 - ((NumText.digitsVal es : Nat) : Int) else ((NumText.digitsVal es : Nat) : Int)) - 0 ≤ 300) :
    NumOK w (sg ++ (ds ++ (ec :: (sx ++ es)))) B (fdv (NumText.digitsVal ds : Nat) ((if BX then 0 - ((NumText.digitsVal es : Nat) : Int) else ((NumText.digitsVal es : Nat) : Int)) - 0)) := by
  obtain ⟨l, hl⟩ : ∃ l, l = sg ++ (ds ++ (ec :: (sx ++ es))) := ⟨_, rfl⟩
  rw [← hl]
  have s1 := sg_len hsg
  have s2 := sg_len hsx
  have hel1 := List.length_pos_iff.mpr hes0
  have hdl := List.length_pos_iff.mpr hf0
  have hlen : l.length = sg.length + ds.length + 1 + sx.length + es.length := by
    rw [hl]; simp only [List.length_append, List.length_cons]; omega
  have e3 : l = (sg ++ (ds ++ [ec])) ++ (sx ++ es) := by rw [hl]; simp only [List.append_assoc, List.cons_append, List.nil_append]
  have e4 : l = (sg ++ (ds ++ (ec :: sx))) ++ (es ++ []) := by rw [hl]; simp only [List.append_assoc, List.cons_append, List.append_nil]
  have hecd : ¬ Dg ec := by
    have hc : ec = 101 ∨ ec = 69 := by simpa using hec
    unfold Dg; omega
  have hhd := head_dg (r := []) hes hes0
  rw [List.append_nil] at hhd
  have hdd := head_dg (r := ec :: (sx ++ es)) hds hf0
  have L3 : (sg ++ (ds ++ [ec])).length = sg.length + ds.length + 1 := by simp only [List.length_append, List.length_cons, List.length_nil]; omega
  have L4 : (sg ++ (ds ++ (ec :: sx))).length = sg.length + ds.length + 1 + sx.length := by simp only [List.length_append, List.length_cons]; omega
  have dec : ((ec : Nat) :: (sx ++ es)).getD 0 0 = ec := rfl
  have hsgn : SgnI l 0 B ((sg.length : Nat) : Int) :=
    sgn_of (pre := []) (sx := sg) (rest := ds ++ (ec :: (sx ++ es))) (by rw [hl]; rfl) hsg rfl (by simp) (by simp) (by unfold Dg at hdd; omega) (by unfold Dg at hdd; omega)
  have ha : l.getD sg.length 0 ≠ 73 := by
    rw [hl, getD_r0]; unfold Dg at hdd; omega
  have gec : l.getD (sg.length + ds.length) 0 = ec := by rw [hl, getD_r, getD_r0]; rfl
  have hdec : DecH w l sg.length (fdv (NumText.digitsVal ds : Nat) ((if BX then 0 - ((NumText.digitsVal es : Nat) : Int) else ((NumText.digitsVal es : Nat) : Int)) - 0)) := by
    intro mean mg mb news t t2
    exact c_dec_no (w := w) mean mg mb news l sg.length (sg.length + ds.length) ds BX ((sg.length + ds.length + 1 + sx.length : Nat) : Int) l.length ((NumText.digitsVal es : Nat) : Int) t t2
      (by omega) (by omega) ha (run_of hl rfl rfl hds (Or.inr (by rw [dec]; exact hecd))) (by omega) (by omega) (by
        rw [gec]
        have hc : ec = 101 ∨ ec = 69 := by simpa using hec
        omega)
      (mid_eq hl (by omega)) hf0 hfl hds (by omega)
      (by rw [Int.toNat_natCast, gec]; exact hec)
      (sgn_of e3 hsx (by rw [L3]; omega) (by rw [L3]) hes0 (by unfold Dg at hhd; omega) (by unfold Dg at hhd; omega))
      (run_of e4 (by rw [L4]) (by rw [L4]; omega) hes (Or.inl rfl))
      (wor_of e4 (by rw [L4]) (by rw [L4]; omega) hes)
      (by omega) (Int.natCast_nonneg _) (val_le9 hes hel) hx0 hx1
  refine num_of (hd' := sg ++ ds) (tl := ec :: sx) (es := es) (by rw [hl]; simp only [List.append_assoc, List.cons_append]) (by omega) (by omega) (by intro q; have := congrArg List.length q; rw [List.length_append] at this; simp only [List.length_nil] at this; omega) ?_ ?_ hes hes0 hsgn hdec
  · intro c hc
    rcases List.mem_append.mp hc with hc | hc
    · have := sg_chars hsg c hc; omega
    · have := hds c hc; unfold Dg at this; omega
  · intro c hc
    rcases List.mem_cons.mp hc with hc | hc
    · have : ec = 101 ∨ ec = 69 := by simpa using hec
      omega
    · have := sg_chars hsx c hc; omega

theorem part_P27_Dig : True := by
  w_top off
  trivial
/- the figures of n -/
def dl (n : Nat) : List Nat := (Nat.toDigits 10 n).map Char.toNat
/- the signs of str(t) -/
def tx (t : Int) : List Nat := (if t < 0 then [45] else []) ++ dl t.natAbs
theorem dl_dg (n : Nat) : AllDg (dl n) := by
  intro c hc
  obtain ⟨ch, hch, e⟩ := List.mem_map.mp hc
  have r := digit_range (Nat.isDigit_of_mem_toDigits (by decide) (by decide) hch)
  rw [← e]; exact r
theorem dl_val (n : Nat) : NumText.digitsVal (dl n) = n := KIN.val_back n
theorem dl_ne (n : Nat) : dl n ≠ [] := by
  intro h
  have := congrArg List.length h
  unfold dl at this
  rw [List.length_map] at this
  have h2 := @Nat.length_toDigits_pos 10 n
  simp only [List.length_nil] at this
  omega
theorem dl_len {n k : Nat} (hk : 0 < k) (h : n < 10 ^ k) : (dl n).length ≤ k := by
  unfold dl
  rw [List.length_map]
  exact (Nat.length_toDigits_le_iff (by decide) hk).2 h
theorem str_tx (t : Int) : Str.ofString (toString t) = mkS (tx t) := by
  rw [mkS_self (Str.ofString (toString t)), PyProof.Rows.signs_ofString]
  congr 1
  cases t with
  | ofNat m =>
    show (Nat.repr m).toList.map Char.toNat = _
    rw [Nat.toList_repr]
    unfold tx dl
    rw [if_neg (show ¬ (Int.ofNat m < 0) from Int.not_lt.mpr (Int.natCast_nonneg m))]
    rfl
  | negSucc m =>
    show (("-" ++ Nat.repr (m + 1)).toList).map Char.toNat = _
    rw [String.toList_append, Nat.toList_repr]
    unfold tx dl
    rw [if_pos (Int.negSucc_lt_zero m)]
    rfl
theorem tx_sg (t : Int) : IsSg (if t < 0 then [45] else []) (decide (t < 0)) := by
  by_cases h : t < 0
  · rw [if_pos h, decide_eq_true h]; exact Or.inr (Or.inr ⟨rfl, rfl⟩)
  · rw [if_neg h, decide_eq_false h]; exact Or.inl ⟨rfl, rfl⟩
theorem tx_val (t : Int) : (if decide (t < 0) = true then 0 - ((NumText.digitsVal (dl t.natAbs) : Nat) : Int) else ((NumText.digitsVal (dl t.natAbs) : Nat) : Int)) = t := by
  rw [dl_val]
  by_cases h : t < 0
  · rw [if_pos (decide_eq_true h)]; omega
  · rw [if_neg (by rw [decide_eq_false h]; decide)]; omega
theorem ok_no {w : World} {sg ds : List Nat} {ec : Nat} {B : Bool} {t : Int} (hsg : IsSg sg B) (hds : AllDg ds) (hf0 : ds ≠ []) (hfl : ds.length ≤ 60) (hec : ec ∈ [101, 69]) (h0 : -380 ≤ t) (h1 : t ≤ 300) :
    NumOK w (sg ++ (ds ++ (ec :: tx t))) B (fdv (NumText.digitsVal ds : Nat) t) := by
  have h := num_no (w := w) (ec := ec) hsg hds hf0 hfl hec (tx_sg t) (dl_dg t.natAbs) (dl_ne _) (dl_len (by decide) (by omega)) (by rw [tx_val]; omega) (by rw [tx_val]; omega)
  rw [tx_val, Int.sub_zero] at h
  exact h
theorem ok_plus {w : World} {sg ds : List Nat} {ec : Nat} {B : Bool} {t : Int} (hsg : IsSg sg B) (hds : AllDg ds) (hf0 : ds ≠ []) (hfl : ds.length ≤ 60) (hec : ec ∈ [101, 69]) (h0 : 0 ≤ t) (h1 : t ≤ 300) :
    NumOK w (sg ++ (ds ++ (ec :: (43 :: tx t)))) B (fdv (NumText.digitsVal ds : Nat) t) := by
  have e : tx t = dl t.natAbs := by unfold tx; rw [if_neg (by omega)]; rfl
  have e2 : (if false = true then 0 - ((NumText.digitsVal (dl t.natAbs) : Nat) : Int) else ((NumText.digitsVal (dl t.natAbs) : Nat) : Int)) = t := by
    rw [if_neg (by decide), dl_val]; omega
  have h := num_no (w := w) (ec := ec) (sx := [43]) (BX := false) hsg hds hf0 hfl hec (Or.inr (Or.inl ⟨rfl, rfl⟩)) (dl_dg t.natAbs) (dl_ne _) (dl_len (by decide) (by omega)) (by rw [e2]; omega) (by rw [e2]; omega)
  rw [e2, Int.sub_zero] at h
  rw [e]
  exact h
theorem ok_dot {w : World} {sg ds fs : List Nat} {ec : Nat} {B : Bool} {t : Int} (hsg : IsSg sg B) (hds : AllDg ds) (hfs : AllDg fs) (hf0 : ds ++ fs ≠ []) (hfl : ds.length + fs.length ≤ 60) (hec : ec ∈ [101, 69]) (ht0 : -1000 ≤ t) (ht1 : t ≤ 1000) (h0 : -380 ≤ t - (fs.length : Int)) (h1 : t - (fs.length : Int) ≤ 300) :
    NumOK w (sg ++ (ds ++ (46 :: (fs ++ (ec :: tx t))))) B (fdv (NumText.digitsVal (ds ++ fs) : Nat) (t - (fs.length : Int))) := by
  have h := num_dot (w := w) (ec := ec) hsg hds hfs hf0 hfl hec (tx_sg t) (dl_dg t.natAbs) (dl_ne _) (dl_len (by decide) (by omega)) (by rw [tx_val]; omega) (by rw [tx_val]; omega)
  rw [tx_val] at h
  exact h
theorem str_m {prog : Program} {w : World} {A : Around} {E : Value → Shared → Prop} {s : Shared} {a : Int} {t : Tok} {Q : Value → Shared → Prop} {l : List Nat} (hl : tx a = l) (h0 : -10000000000000000000 < a) (h1 : a < 10000000000000000000) (h : Q (.str (mkS l) s.toks) { s with toks := s.toks + 1 }) :
    wpAny (model prog w) A (call (.type "str") [.int a t]) Q E s := by
  subst hl
  refine P.str_of_int (shown (N := 10000000000000000000) h0 h1 (by decide +kernel)) ?_
  show Q (.str (Str.ofString (toString a)) s.toks) _
  rw [str_tx]; exact h
theorem lines_P27_Dig_1 : True := by
  k_with "call type:str" => (
  k_here
  (with_reducible show wpAny _ _ (call (Value.type "str") [Value.int _ _]) _ _ _)
  refine str_m (by walk_at "mine res") (by omega) (by omega) ?_)
  trivial

theorem part_P28_Ways : True := by
  w_top off
  trivial
/- what a call of the def at f gives back: a new list of six texts -/
abbrev RetL (h₀ : Heap) (L : Addr) (m : Str → Option Value) (news : List (Addr × Obj)) (s : Shared) (Q : Value → Shared → Prop) (l1 l2 l3 l4 l5 l6 : List Nat) : Prop :=
  ∀ (D : Addr) (t1 t2 t3 t4 t5 t6 : Tok) (h' : Heap) (tk' : Nat), Fr h₀ L h' m → News h₀ L h' ((D, { cls := .type "list", data := .seq #[.str (mkS l1) t1, .str (mkS l2) t2, .str (mkS l3) t3, .str (mkS l4) t4, .str (mkS l5) t5, .str (mkS l6) t6] }) :: news) → Q (.ref D) { s with heap := h', toks := tk' }
theorem end_lst {h₀ h' g : Heap} {L L' : Addr} {m m' : Str → Option Value} {news news' : List (Addr × Obj)} {s : Shared} {Q : Value → Shared → Prop} {D : Addr} {t1 t2 t3 t4 t5 t6 : Tok} {tk' : Nat} {l1 l2 l2' l3 l4 l5 l6 : List Nat}
    (hret : RetL h₀ L m news s Q l1 l2 l3 l4 l5 l6) (C : Carry g h₀ L news) (F' : Fr g L' h' m') (F : Fr h₀ L h' m) (N : News h₀ L h' news')
    (hm : (D, ({ cls := .type "list", data := .seq #[.str (mkS l1) t1, .str (mkS l2') t2, .str (mkS l3) t3, .str (mkS l4) t4, .str (mkS l5) t5, .str (mkS l6) t6] } : Obj)) ∈ news') (e : l2' = l2) : Q (.ref D) { s with heap := h', toks := tk' } := by
  subst e
  refine hret D t1 t2 t3 t4 t5 t6 h' tk' F fun p hp => ?_
  rcases List.mem_cons.mp hp with rfl | hp
  · exact N _ hm
  · exact C _ _ _ F' p hp
theorem tx_len {t : Int} (h0 : -10000000000000000000 < t) (h1 : t < 10000000000000000000) : (tx t).length ≤ 4000 := by
  have h := @dl_len t.natAbs 19 (by decide) (by omega)
  unfold tx
  rw [List.length_append]
  split <;> simp only [List.length_cons, List.length_nil] <;> omega
theorem mod_as {prog : Program} {w : World} {A : Around} {E : Value → Shared → Prop} {s : Shared} {a b r : Int} {t u : Tok} {Q : Value → Shared → Prop} (hr : a.fmod b = r) (h1 : 1 ≤ b) (hQ : Q (.int r s.toks) { s with toks := s.toks + 1 }) :
    wpAny (model prog w) A (binaryOp .Mod (.int a t) (.int b u)) Q E s := mod_int' (by omega) (hr ▸ hQ)
theorem fmod_nat {k b : Int} (hb : 1 ≤ b) : ∃ r : Nat, k.fmod b = (r : Int) ∧ (r : Int) < b := by
  have h0 := Int.fmod_nonneg_of_pos k (show 0 < b by omega)
  have h1 := Int.fmod_lt_of_pos k (show 0 < b by omega)
  exact ⟨(k.fmod b).toNat, by omega, by omega⟩
theorem tx_nn {N : Int} (h : 0 ≤ N) : tx N = dl N.natAbs := by unfold tx; rw [if_neg (by omega)]; rfl
/- where the two arms of the one if-expression meet: the text pl -/
structure IfJ (pl : List Nat) (s : Shared) (v : Value) (s' : Shared) : Prop where
  out : ∃ (t : Tok) (tk : Nat), v = .str (mkS pl) t ∧ s' = { s with toks := tk }
theorem ifexp_join {M : Model} {A : Around} {E : Value → Shared → Prop} {s : Shared} {env : Env} {test a b : Expr} {pos : Pos} {Q : Value → Shared → Prop} (pl : List Nat)
    (h1 : wpAny M A (isTrue test env (eval test env)) (fun c s₂ => if c = true then wpAny M A (eval a env) (fun v s' => IfJ pl s v s') E s₂ else wpAny M A (eval b env) (fun v s' => IfJ pl s v s') E s₂) E s)
    (h2 : ∀ (t : Tok) (tk : Nat), Q (.str (mkS pl) t) { s with toks := tk }) : wpAny M A (eval (.IfExp test a b pos) env) Q E s := by
  refine wpAny_IfExp (wpAny_mono h1 (fun c s₂ hc => ?_) fun _ _ h => h)
  have fin : ∀ v s', IfJ pl s v s' → Q v s' := fun v s' hj => by
    obtain ⟨t, tk, rfl, rfl⟩ := hj.out
    exact h2 t tk
  cases c with
  | true => exact wpAny_mono hc fin fun _ _ h => h
  | false => exact wpAny_mono hc fin fun _ _ h => h
theorem ifj_p {x : Int} {pl : List Nat} {t : Tok} (e : pl = if 0 ≤ x then [43] else []) (h : 0 ≤ x) : Value.str (Str.ofString "+") t = .str (mkS pl) t := by rw [e, if_pos h, ← lit_plus]
theorem ifj_n {x : Int} {pl : List Nat} {t : Tok} (e : pl = if 0 ≤ x then [43] else []) (h : ¬ 0 ≤ x) : Value.str (Str.ofString "") t = .str (mkS pl) t := by rw [e, if_neg h, ← lit_nil]
theorem if_le1 {x : Int} {pl : List Nat} (e : pl = if 0 ≤ x then [43] else []) : pl.length ≤ 1 := by rw [e]; split <;> decide
theorem lines_P28_Ways_1 : True := by
  k_with "eval IfExp" => (
  k_here
  refine ifexp_join pl ?_ (fun t9 k9 => ?_))
  k_with "IfJ" => k_dflt (first | exact IfJ.mk ⟨_, _, ifj_p hpl (by with_reducible assumption), rfl⟩ | exact IfJ.mk ⟨_, _, ifj_n hpl (by with_reducible assumption), rfl⟩)
  k_with "mine len" => first | (with_reducible exact tx_len (by omega) (by omega)) | omega | (simp only [List.length_append, List.length_cons, List.length_nil, List.length_replicate, List.length_drop, List.length_take]; omega)
  k_with "binaryOp Mod int int" => (
  k_here
  (with_reducible show wpAny _ _ (binaryOp Operator.Mod (Value.int _ _) (Value.int _ _)) _ _ _)
  (with_reducible refine mod_as (by assumption) (by omega) ?_))
  trivial
set_option maxHeartbeats 8000000 in
theorem c_law_ways {w : World} : ∀ (mean : ExcName → Option Value) (mg mb : Str → Option Value) (news : List (Addr × Obj)) (N x k : Int) (a p q : Nat) (d : List Nat) (t t2 t3 : Tok) (_ : 0 ≤ N) (_ : N < 10000000000000000000) (_ : -330 ≤ x) (_ : x ≤ 300) (_ : tx N = d) (_ : 1 ≤ d.length) (_ : d.length ≤ 19)
    (_ : k.fmod (d.length + 1) = (a : Int)) (_ : a ≤ d.length) (_ : k.fmod 30 = (p : Int)) (_ : p < 30) (_ : k.fmod 25 = (q : Int)) (_ : q < 25),
    Claim0 w mean mg mb 189 1 news [.int N t, .int x t2, .int k t3] (fun h₀ L m s Q => RetL h₀ L m news s Q ((d ++ [101]) ++ tx x) (((d ++ [69]) ++ (if 0 ≤ x then [43] else [])) ++ tx x) ((((d.take a ++ [46]) ++ d.drop a) ++ [101]) ++ tx (x + d.length - a))
      (((List.replicate p 48 ++ d) ++ [46, 48, 48, 48, 101]) ++ tx x) ((([43] ++ (d ++ List.replicate q 48)) ++ [101]) ++ tx (x - q)) (((([46] ++ List.replicate p 48) ++ d) ++ [69]) ++ tx (x + p + d.length))) := by
  intros mean mg mb news N x k a p q d t t2 t3 hN0 hN1 hx0 hx1 hd' hdl0 hdl hka ha hkp hp hkq hq dp un gd cn cs a' ccd cl outer A₀ base h₀ L m s Q E HB HF HK HN HT hk hd hu
  obtain ⟨pl, hpl⟩ : ∃ pl : List Nat, pl = (if 0 ≤ x then [43] else []) := ⟨_, rfl⟩
  have hpll := if_le1 hpl
  rw [← hpl]
  intro hret
  walk_at "mine enter"
  k_steps
  all_goals exact end_lst hret (by assumption) (by assumption) (by assumption) (by assumption) (by k_mem) rfl

theorem part_P29_Mono : True := by
  w_top off
  trivial
def TT : Nat := 10 ^ 380
theorem TT_split {j : Nat} (h : j ≤ 380) : TT = 10 ^ (380 - j) * 10 ^ j := by
  unfold TT; rw [← Nat.pow_add]; congr 1; omega
theorem TT_pos : 0 < TT := Nat.pow_pos (by decide)
theorem fdv_rd {N : Nat} {e : Int} (hN : 0 < N) (he : -380 ≤ e) : ∃ n d : Nat, 0 < n ∧ 0 < d ∧ Rd SC n d (fdv N e) ∧ n * TT = N * 10 ^ (e + 380).toNat * d := by
  unfold fdv
  rw [if_neg (by omega)]
  by_cases h : 0 ≤ e
  · refine ⟨N * 10 ^ e.toNat, 1, Nat.mul_pos hN (Nat.pow_pos (by decide)), by decide, ?_, ?_⟩
    · rw [if_pos h]
      have := rr_Rd (n := N * 10 ^ e.toNat) (d := 1) (Nat.mul_pos hN (Nat.pow_pos (by decide))) (by decide)
      rw [Int.natCast_mul, Int.natCast_pow] at this
      exact this
    · have e1 : (e + 380).toNat = e.toNat + 380 := by omega
      rw [e1, Nat.pow_add, Nat.mul_one, Nat.mul_assoc]; rfl
  · refine ⟨N, 10 ^ (0 - e).toNat, hN, Nat.pow_pos (by decide), ?_, ?_⟩
    · rw [if_neg h]
      have := rr_Rd (n := N) (d := 10 ^ (0 - e).toNat) hN (Nat.pow_pos (by decide))
      rw [Int.natCast_pow] at this
      exact this
    · have e1 : (e + 380).toNat = 380 - (0 - e).toNat := by omega
      rw [e1, Nat.mul_assoc, ← TT_split (by omega)]
theorem fdv_zero0 {e : Int} : fdv ((0 : Nat) : Int) e = 0 := by unfold fdv; rw [if_pos (show (((0 : Nat) : Int) = 0) from rfl)]
theorem fdv_range {N : Nat} {e : Int} (he : -380 ≤ e) : 0 ≤ fdv N e ∧ fdv N e ≤ 9218868437227405312 := by
  by_cases h : N = 0
  · subst h; rw [fdv_zero0]; decide
  · obtain ⟨n, d, _, _, hr, _⟩ := fdv_rd (N := N) (e := e) (by omega) he
    exact hr.range
theorem fdv_mono {N N' : Nat} {e e' : Int} (he : -380 ≤ e) (he' : -380 ≤ e') (h : N * 10 ^ (e + 380).toNat ≤ N' * 10 ^ (e' + 380).toNat) : fdv N e ≤ fdv N' e' := by
  by_cases h0 : N = 0
  · subst h0; rw [fdv_zero0]; exact (fdv_range he').1
  · have h1 : 0 < N' := by
      rcases Nat.eq_zero_or_pos N' with z | z
      · subst z
        rw [Nat.zero_mul] at h
        have := Nat.mul_pos (show 0 < N by omega) (show 0 < 10 ^ (e + 380).toNat from Nat.pow_pos (by decide))
        omega
      · exact z
    obtain ⟨n, d, _, hd, hr, q⟩ := fdv_rd (N := N) (e := e) (by omega) he
    obtain ⟨n', d', _, hd', hr', q'⟩ := fdv_rd (N := N') (e := e') h1 he'
    refine hr.mono hd hd' hr' ?_
    refine Nat.le_of_mul_le_mul_right ?_ TT_pos
    calc n * d' * TT = n * TT * d' := Nat.mul_right_comm ..
      _ = N * 10 ^ (e + 380).toNat * d * d' := by rw [q]
      _ ≤ N' * 10 ^ (e' + 380).toNat * d * d' := Nat.mul_le_mul_right _ (Nat.mul_le_mul_right _ h)
      _ = N' * 10 ^ (e' + 380).toNat * d' * d := Nat.mul_right_comm ..
      _ = n' * TT * d := by rw [q']
      _ = n' * d * TT := Nat.mul_right_comm ..
theorem fdv_same {N N' : Nat} {e e' : Int} (he : -380 ≤ e) (he' : -380 ≤ e') (h : N * 10 ^ (e + 380).toNat = N' * 10 ^ (e' + 380).toNat) : fdv N e = fdv N' e' :=
  Int.le_antisymm (fdv_mono he he' (Nat.le_of_eq h)) (fdv_mono he' he (Nat.le_of_eq h.symm))
theorem fdv_shift {N k : Nat} {e : Int} (h : -380 ≤ e - (k : Int)) : fdv ((N * 10 ^ k : Nat) : Int) (e - (k : Int)) = fdv N e := by
  refine fdv_same h (by omega) ?_
  have e1 : (e + 380).toNat = k + (e - (k : Int) + 380).toNat := by omega
  rw [e1, Nat.pow_add, Nat.mul_assoc]
theorem val_rep0 {d : List Nat} : ∀ k, NumText.digitsVal (List.replicate k 48 ++ d) = NumText.digitsVal d
  | 0 => rfl
  | k + 1 => by rw [List.replicate_succ, List.cons_append, NumText.digitsVal_zero, val_rep0 k]
theorem val_rep {d : List Nat} : ∀ k, NumText.digitsVal (d ++ List.replicate k 48) = NumText.digitsVal d * 10 ^ k
  | 0 => by simp
  | k + 1 => by
    rw [List.replicate_succ', ← List.append_assoc, NumText.digitsVal_snoc, val_rep k, Nat.pow_succ, Nat.mul_assoc, Nat.sub_self, Nat.add_zero]
theorem rep_dg {k : Nat} : AllDg (List.replicate k 48) := by
  intro c hc
  have := (List.mem_replicate.mp hc).2
  unfold Dg; omega
theorem app_dg {a b : List Nat} (ha : AllDg a) (hb : AllDg b) : AllDg (a ++ b) := fun c hc => (List.mem_append.mp hc).elim (ha c) (hb c)
theorem sg0 : IsSg [] false := Or.inl ⟨rfl, rfl⟩
theorem sgP : IsSg [43] false := Or.inr (Or.inl ⟨rfl, rfl⟩)
theorem sgM : IsSg [45] true := Or.inr (Or.inr ⟨rfl, rfl⟩)
section
variable {w : World} {N : Nat} {x : Int} {d : List Nat} (hN : N < 10 ^ 19) (hx0 : -330 ≤ x) (hx1 : x ≤ 300) (hd : dl N = d)
include hN hx0 hx1 hd
theorem way_facts : AllDg d ∧ NumText.digitsVal d = N ∧ d ≠ [] ∧ d.length ≤ 19 ∧ 1 ≤ d.length := by
  subst hd
  exact ⟨dl_dg N, dl_val N, dl_ne N, dl_len (by decide) hN, List.length_pos_iff.mpr (dl_ne N)⟩
theorem way1 : NumOK w ((d ++ [101]) ++ tx x) false (fdv N x) := by
  obtain ⟨f1, f2, f3, f4, _⟩ := way_facts hN hx0 hx1 hd
  have h := ok_no (w := w) (ec := 101) (t := x) sg0 f1 f3 (by omega) (by decide) (by omega) hx1
  rw [f2] at h
  simpa only [List.append_assoc, List.cons_append, List.nil_append] using h
theorem wayM : NumOK w ((([45] ++ d) ++ [101]) ++ tx x) true (fdv N x) := by
  obtain ⟨f1, f2, f3, f4, _⟩ := way_facts hN hx0 hx1 hd
  have h := ok_no (w := w) (ec := 101) (t := x) sgM f1 f3 (by omega) (by decide) (by omega) hx1
  rw [f2] at h
  simpa only [List.append_assoc, List.cons_append, List.nil_append] using h
theorem way2 : NumOK w (((d ++ [69]) ++ (if 0 ≤ x then [43] else [])) ++ tx x) false (fdv N x) := by
  obtain ⟨f1, f2, f3, f4, _⟩ := way_facts hN hx0 hx1 hd
  by_cases hx : 0 ≤ x
  · have h := ok_plus (w := w) (ec := 69) (t := x) sg0 f1 f3 (by omega) (by decide) hx hx1
    rw [f2] at h
    rw [if_pos hx]
    simpa only [List.append_assoc, List.cons_append, List.nil_append] using h
  · have h := ok_no (w := w) (ec := 69) (t := x) sg0 f1 f3 (by omega) (by decide) (by omega) hx1
    rw [f2] at h
    rw [if_neg hx]
    simpa only [List.append_assoc, List.cons_append, List.nil_append] using h
theorem way3 {a : Nat} (ha : a ≤ d.length) : NumOK w ((((d.take a ++ [46]) ++ d.drop a) ++ [101]) ++ tx (x + d.length - a)) false (fdv N x) := by
  obtain ⟨f1, f2, f3, f4, _⟩ := way_facts hN hx0 hx1 hd
  have g1 : AllDg (d.take a) := fun c hc => f1 c (List.mem_of_mem_take hc)
  have g2 : AllDg (d.drop a) := fun c hc => f1 c (List.mem_of_mem_drop hc)
  have g3 : d.take a ++ d.drop a = d := List.take_append_drop a d
  have g4 : ((d.drop a).length : Int) = (d.length : Int) - a := by rw [List.length_drop]; omega
  have g5 : (d.take a).length = a := by rw [List.length_take]; omega
  have h := ok_dot (w := w) (ec := 101) (t := x + d.length - a) sg0 g1 g2 (by rw [g3]; exact f3) (by rw [g5, List.length_drop]; omega) (by decide) (by omega) (by omega) (by rw [g4]; omega) (by rw [g4]; omega)
  rw [g3, f2, g4, show x + (d.length : Int) - a - ((d.length : Int) - a) = x by omega] at h
  simpa only [List.append_assoc, List.cons_append, List.nil_append] using h
theorem way4 {p : Nat} (hp : p < 30) : NumOK w (((List.replicate p 48 ++ d) ++ [46, 48, 48, 48, 101]) ++ tx x) false (fdv N x) := by
  obtain ⟨f1, f2, f3, f4, _⟩ := way_facts hN hx0 hx1 hd
  have g2 : AllDg [48, 48, 48] := @rep_dg 3
  have g1 := app_dg (@rep_dg p) f1
  have h := ok_dot (w := w) (ec := 101) (t := x) sg0 g1 g2 (by simp) (by simp only [List.length_append, List.length_replicate, List.length_cons, List.length_nil]; omega) (by decide) (by omega) (by omega) (by simp only [List.length_cons, List.length_nil]; omega) (by simp only [List.length_cons, List.length_nil]; omega)
  have g3 : NumText.digitsVal ((List.replicate p 48 ++ d) ++ [48, 48, 48]) = N * 10 ^ 3 := by
    have := @val_rep (List.replicate p 48 ++ d) 3
    rw [val_rep0, f2] at this
    exact this
  rw [g3, show ((([48, 48, 48] : List Nat).length : Nat) : Int) = ((3 : Nat) : Int) from rfl, fdv_shift (by omega)] at h
  simpa only [List.append_assoc, List.cons_append, List.nil_append] using h
theorem way5 {q : Nat} (hq : q < 25) : NumOK w ((([43] ++ (d ++ List.replicate q 48)) ++ [101]) ++ tx (x - q)) false (fdv N x) := by
  obtain ⟨f1, f2, f3, f4, _⟩ := way_facts hN hx0 hx1 hd
  have h := ok_no (w := w) (ec := 101) (t := x - q) sgP (app_dg f1 (@rep_dg q)) (by simp [f3]) (by simp only [List.length_append, List.length_replicate]; omega) (by decide) (by omega) (by omega)
  rw [val_rep, f2, fdv_shift (by omega)] at h
  simpa only [List.append_assoc, List.cons_append, List.nil_append] using h
theorem way6 {p : Nat} (hp : p < 30) : NumOK w (((([46] ++ List.replicate p 48) ++ d) ++ [69]) ++ tx (x + p + d.length)) false (fdv N x) := by
  obtain ⟨f1, f2, f3, f4, _⟩ := way_facts hN hx0 hx1 hd
  have g1 := app_dg (@rep_dg p) f1
  have gl : (((List.replicate p 48 ++ d).length : Nat) : Int) = (p : Int) + d.length := by simp only [List.length_append, List.length_replicate]; omega
  have h := ok_dot (w := w) (ds := []) (ec := 69) (t := x + p + d.length) sg0 (fun _ h => nomatch h) g1 (by simp [f3]) (by simp only [List.length_append, List.length_replicate, List.length_nil]; omega) (by decide) (by omega) (by omega) (by rw [gl]; omega) (by rw [gl]; omega)
  simp only [List.nil_append] at h
  rw [val_rep0, f2, gl, show x + (p : Int) + (d.length : Int) - ((p : Int) + d.length) = x by omega] at h
  simpa only [List.append_assoc, List.cons_append, List.nil_append] using h
end

theorem part_P30_Cmp : True := by
  w_top off
  trivial
theorem nan_no {a : Int} (h0 : 0 ≤ a) (h1 : a ≤ 9218868437227405312) : ¬ 9218868437227405312 < Builtin.bitAnd a (9223372036854775808 - 1) := by
  have := (PyProof.Rows.bitAnd_range (9223372036854775808 - 1) h0).2
  rw [PyProof.Rows.bitAnd_comm] at this
  omega
theorem neg_no {a : Int} (h0 : 0 ≤ a) (h1 : a ≤ 9218868437227405312) : a.fdiv (2 ^ Int.toNat 63) ≠ 1 := by
  have e : (2 : Int) ^ Int.toNat 63 = 9223372036854775808 := rfl
  rw [e, Int.fdiv_eq_ediv_of_nonneg _ (by omega)]
  omega
set_option maxHeartbeats 8000000 in
theorem c_is_nan {w : World} : ∀ (mean : ExcName → Option Value) (mg mb : Str → Option Value) (news : List (Addr × Obj)) (a : Int) (t : Tok) (_ : 0 ≤ a) (_ : a ≤ 9218868437227405312),
    Claim w mean mg mb 42 1 news [.int a t] (fun _ => .bool false) := by
  intros mean mg mb news a t h0 h1 dp un gd cn cs a' ccd cl outer A₀ base h₀ L m s Q E HB HF HK HN HT hk hd hu hret
  walk_at "mine enter"
  k_steps
  all_goals (refine end_bool hret (by assumption) (by assumption) (by assumption) ?_)
  all_goals exact decide_eq_false (nan_no h0 h1)
set_option maxHeartbeats 8000000 in
theorem c_is_negative {w : World} : ∀ (mean : ExcName → Option Value) (mg mb : Str → Option Value) (news : List (Addr × Obj)) (a : Int) (t : Tok) (_ : 0 ≤ a) (_ : a ≤ 9218868437227405312),
    Claim w mean mg mb 35 1 news [.int a t] (fun _ => .bool false) := by
  intros mean mg mb news a t h0 h1 dp un gd cn cs a' ccd cl outer A₀ base h₀ L m s Q E HB HF HK HN HT hk hd hu hret
  walk_at "mine enter"
  k_steps
  all_goals (refine end_bool hret (by assumption) (by assumption) (by assumption) ?_)
  all_goals exact decide_eq_false (neg_no h0 h1)
theorem lines_P30_Cmp_1 : True := by
  k_with "mine claimP" => (
  (with_reducible show Claim0 _ _ _ _ 42 _ _ _ _)
  (with_reducible exact c_is_nan _ _ _ _ _ _ (by walk_at "mine pr") (by walk_at "mine pr")))
  trivial
theorem lines_P30_Cmp_2 : True := by
  k_with "mine claimP" => (
  (with_reducible show Claim0 _ _ _ _ 35 _ _ _ _)
  (with_reducible exact c_is_negative _ _ _ _ _ _ (by walk_at "mine pr") (by walk_at "mine pr")))
  trivial
set_option maxHeartbeats 8000000 in
theorem c_order_key {w : World} : ∀ (mean : ExcName → Option Value) (mg mb : Str → Option Value) (news : List (Addr × Obj)) (a : Int) (t : Tok) (_ : 0 ≤ a) (_ : a ≤ 9218868437227405312),
    Claim w mean mg mb 175 2 news [.int a t] (fun t => .int a t) := by
  intros mean mg mb news a t h0 h1 dp un gd cn cs a' ccd cl outer A₀ base h₀ L m s Q E HB HF HK HN HT hk hd hu hret
  walk_at "mine enter"
  k_steps
  all_goals exact end_int hret (by assumption) (by assumption) (by assumption) rfl
set_option maxHeartbeats 8000000 in
theorem c_neg {w : World} : ∀ (mean : ExcName → Option Value) (mg mb : Str → Option Value) (news : List (Addr × Obj)) (a : Int) (t : Tok) (_ : 0 ≤ a) (_ : a ≤ 9218868437227405312),
    Claim w mean mg mb 168 2 news [.int a t] (fun t => .int (Builtin.bitXor a 9223372036854775808) t) := by
  intros mean mg mb news a t h0 h1 dp un gd cn cs a' ccd cl outer A₀ base h₀ L m s Q E HB HF HK HN HT hk hd hu hret
  walk_at "mine enter"
  k_steps
  all_goals exact end_int hret (by assumption) (by assumption) (by assumption) rfl
theorem lines_P30_Cmp_3 : True := by
  k_with "mine claimP" => (
  (with_reducible show Claim0 _ _ _ _ 175 _ _ _ _)
  (with_reducible exact c_order_key _ _ _ _ _ _ (by walk_at "mine pr") (by walk_at "mine pr")))
  trivial
theorem lines_P30_Cmp_4 : True := by
  k_with "mine claimP" => (
  (with_reducible show Claim0 _ _ _ _ 168 _ _ _ _)
  (with_reducible exact c_neg _ _ _ _ _ _ (by walk_at "mine pr") (by walk_at "mine pr")))
  trivial
set_option maxHeartbeats 8000000 in
theorem c_compare {w : World} : ∀ (mean : ExcName → Option Value) (mg mb : Str → Option Value) (news : List (Addr × Obj)) (a b : Int) (t t2 : Tok) (_ : 0 ≤ a) (_ : a ≤ 9218868437227405312) (_ : 0 ≤ b) (_ : b ≤ 9218868437227405312),
    Claim w mean mg mb 182 3 news [.int a t, .int b t2] (fun t => .int (if a = b then 0 else if a < b then -1 else 1) t) := by
  intros mean mg mb news a b t t2 h0 h1 h2 h3 dp un gd cn cs a' ccd cl outer A₀ base h₀ L m s Q E HB HF HK HN HT hk hd hu hret
  walk_at "mine enter"
  k_steps
  all_goals (refine end_int hret (by assumption) (by assumption) (by assumption) ?_)
  all_goals first
    | rw [if_pos (by assumption)]
    | rw [if_neg (by assumption), if_pos (by assumption)]
    | rw [if_neg (by assumption), if_neg (by assumption)]
theorem lines_P30_Cmp_5 : True := by
  k_with "mine claimP" => (
  (with_reducible show Claim0 _ _ _ _ 182 _ _ _ _)
  (with_reducible exact c_compare _ _ _ _ _ _ _ _ (by walk_at "mine pr") (by walk_at "mine pr") (by walk_at "mine pr") (by walk_at "mine pr")))
  trivial
/- v is what the number N, ten to x times over, is read as -/
structure IsV (N x v : Int) : Prop where
  eq : v = fdv N x
/- what a call of _law_ways gives back: a new list of six texts, each a way to write the one number -/
abbrev RetW (w : World) (N x : Int) (h₀ : Heap) (L : Addr) (m : Str → Option Value) (news : List (Addr × Obj)) (s : Shared) (Q : Value → Shared → Prop) : Prop :=
  ∀ (v : Int) (l1 l2 l3 l4 l5 l6 : List Nat), IsV N x v → 0 ≤ v → v ≤ 9218868437227405312 → NumOK w ((([45] ++ tx N) ++ [101]) ++ tx x) true v → NumOK w l1 false v → NumOK w l2 false v → NumOK w l3 false v → NumOK w l4 false v → NumOK w l5 false v → NumOK w l6 false v → RetL h₀ L m news s Q l1 l2 l3 l4 l5 l6
theorem c_ways {w : World} : ∀ (mean : ExcName → Option Value) (mg mb : Str → Option Value) (news : List (Addr × Obj)) (N x k : Int) (t t2 t3 : Tok) (_ : 0 ≤ N) (_ : N < 10000000000000000000) (_ : -330 ≤ x) (_ : x ≤ 300),
    Claim0 w mean mg mb 189 1 news [.int N t, .int x t2, .int k t3] (fun h₀ L m s Q => RetW w N x h₀ L m news s Q) := by
  intro mean mg mb news N x k t t2 t3 hN0 hN1 hx0 hx1 dp un gd cn cs a' ccd cl outer A₀ base h₀ L m s Q E HB HF HK HN HT hk hd hu hret
  obtain ⟨n, rfl⟩ := Int.eq_ofNat_of_zero_le hN0
  have hn : n < 10 ^ 19 := by omega
  obtain ⟨d, hd'⟩ : ∃ d, dl n = d := ⟨_, rfl⟩
  obtain ⟨_, _, _, f4, f5⟩ := way_facts hn hx0 hx1 hd'
  obtain ⟨a, ha1, ha2⟩ := @fmod_nat k (d.length + 1) (by omega)
  obtain ⟨p, hp1, hp2⟩ := @fmod_nat k 30 (by decide)
  obtain ⟨q, hq1, hq2⟩ := @fmod_nat k 25 (by decide)
  exact c_law_ways mean mg mb news n x k a p q d t t2 t3 hN0 hN1 hx0 hx1 (by rw [tx_nn hN0]; exact hd') f5 f4 ha1 (by omega) hp1 (by omega) hq1 (by omega) dp un gd cn cs a' ccd cl outer A₀ base h₀ L m s Q E HB HF HK HN HT hk hd hu
    (hret _ _ _ _ _ _ _ ⟨rfl⟩ (fdv_range (by omega)).1 (fdv_range (by omega)).2 (by rw [tx_nn hN0, Int.natAbs_natCast, hd']; exact wayM hn hx0 hx1 hd') (way1 hn hx0 hx1 hd') (way2 hn hx0 hx1 hd') (way3 hn hx0 hx1 hd' (by omega)) (way4 hn hx0 hx1 hd' (by omega)) (way5 hn hx0 hx1 hd' (by omega)) (way6 hn hx0 hx1 hd' (by omega)))

theorem part_P31_Law : True := by
  w_top off
  trivial
theorem c_numF {w : World} : ∀ (mean : ExcName → Option Value) (mg mb : Str → Option Value) (news : List (Addr × Obj)) (l : List Nat) (v : Int) (t : Tok) (_ : NumOK w l false v),
    Claim w mean mg mb 161 6 news [.str (mkS l) t] (fun t => .int v t) := fun mean mg mb news l v t h => c_num mean mg mb news l false v t h
theorem c_numT {w : World} : ∀ (mean : ExcName → Option Value) (mg mb : Str → Option Value) (news : List (Addr × Obj)) (l : List Nat) (v : Int) (t : Tok) (_ : NumOK w l true v),
    Claim w mean mg mb 161 6 news [.str (mkS l) t] (fun t => .int (Builtin.bitXor v 9223372036854775808) t) := fun mean mg mb news l v t h => c_num mean mg mb news l true v t h
theorem mod_fresh {prog : Program} {w : World} {A : Around} {E : Value → Shared → Prop} {s : Shared} {a b : Int} {t u : Tok} {Q : Value → Shared → Prop} (h1 : 1 ≤ b) (hQ : ∀ r : Int, 0 ≤ r → r < b → Q (.int r s.toks) { s with toks := s.toks + 1 }) :
    wpAny (model prog w) A (binaryOp .Mod (.int a t) (.int b u)) Q E s := mod_int' (by omega) (hQ _ (Int.fmod_nonneg_of_pos a (by omega)) (Int.fmod_lt_of_pos a (by omega)))
theorem mod_fresh19 {prog : Program} {w : World} {A : Around} {E : Value → Shared → Prop} {s : Shared} {a : Int} {t u : Tok} {Q : Value → Shared → Prop} (hQ : ∀ r : Int, 0 ≤ r → r < 10000000000000000000 → Q (.int r s.toks) { s with toks := s.toks + 1 }) :
    wpAny (model prog w) A (binaryOp .Mod (.int a t) (.int (10 ^ Int.toNat 19) u)) Q E s := by
  have e : (10 : Int) ^ Int.toNat 19 = 10000000000000000000 := by decide +kernel
  rw [e]; exact mod_fresh (by decide) hQ
theorem tx_len20 {t : Int} (h0 : -10000000000000000000 < t) (h1 : t < 10000000000000000000) : (tx t).length ≤ 20 := by
  have h := @dl_len t.natAbs 19 (by decide) (by omega)
  unfold tx
  rw [List.length_append]
  split <;> simp only [List.length_cons, List.length_nil] <;> omega
theorem len_c1 {c : Nat} : ([c] : List Nat).length ≤ 4000 := by simp
theorem tx_lenA {t : Int} (h0 : 0 ≤ t) (h1 : t < 10000000000000000000) : (tx t).length ≤ 4000 := tx_len (by omega) h1
theorem tx_lenB {t : Int} (h0 : 0 ≤ t) (h1 : t < 631) : (tx (t - 330)).length ≤ 4000 := tx_len (by omega) (by omega)
theorem tx_len1 {t : Int} (h0 : 0 ≤ t) (h1 : t < 10000000000000000000) : ([45] ++ tx t).length ≤ 4000 := by
  have := tx_len20 (show -10000000000000000000 < t by omega) h1
  rw [List.length_append, List.length_singleton]; omega
theorem tx_len2 {t : Int} (h0 : 0 ≤ t) (h1 : t < 10000000000000000000) : (([45] ++ tx t) ++ [101]).length ≤ 4000 := by
  have := tx_len20 (show -10000000000000000000 < t by omega) h1
  rw [List.length_append, List.length_append, List.length_singleton, List.length_singleton]; omega
theorem tx_len3 {t : Int} (h0 : 0 ≤ t) (h1 : t < 10000000000000000000) : (45 :: (tx t ++ [101])).length ≤ 4000 := tx_len2 h0 h1
theorem num_A {w : World} {N x v : Int} (h : NumOK w ((([45] ++ tx N) ++ [101]) ++ tx x) true v) : NumOK w ((45 :: (tx N ++ [101])) ++ tx x) true v := h
theorem num_B {w : World} {N x v : Int} (h : NumOK w ((([45] ++ tx N) ++ [101]) ++ tx x) true v) : NumOK w (45 :: ((tx N ++ [101]) ++ tx x)) true v := h
theorem six_get {v : Int} : ([v, v, v, v, v, v] : List Int).getD (Int.toNat 0) 0 = v := rfl
theorem c_negx {w : World} : ∀ (mean : ExcName → Option Value) (mg mb : Str → Option Value) (news : List (Addr × Obj)) (x v : Int) (t : Tok) (_ : x = v) (_ : 0 ≤ v) (_ : v ≤ 9218868437227405312),
    Claim w mean mg mb 168 2 news [.int x t] (fun t => .int (Builtin.bitXor v 9223372036854775808) t) := fun mean mg mb news x v t e h0 h1 => by
  subst e; exact c_neg mean mg mb news x t h0 h1
theorem c_cmpx {w : World} : ∀ (mean : ExcName → Option Value) (mg mb : Str → Option Value) (news : List (Addr × Obj)) (x y v u : Int) (t t2 : Tok) (_ : x = v) (_ : y = u) (_ : 0 ≤ v) (_ : v ≤ 9218868437227405312) (_ : 0 ≤ u) (_ : u ≤ 9218868437227405312),
    Claim w mean mg mb 182 3 news [.int x t, .int y t2] (fun t => .int (if v = u then 0 else if v < u then -1 else 1) t) := fun mean mg mb news x y v u t t2 e e2 h0 h1 h2 h3 => by
  subst e; subst e2; exact c_compare mean mg mb news x y t t2 h0 h1 h2 h3
theorem mul_law {prog : Program} {w : World} {A : Around} {E : Value → Shared → Prop} {s : Shared} {a b : Int} {t u : Tok} {Q : Value → Shared → Prop} (h0 : 0 ≤ a) (h1 : a < 10000000000000000000) (h : Q (.int (a * b) s.toks) { s with toks := s.toks + 1 }) :
    wpAny (model prog w) A (binaryOp .Mult (.int a t) (.int b u)) Q E s := mul_int h (IntMulOk.of_left (intBits_le (by omega)))
theorem six_no {v : Int} : ¬ ((!decide ([v, v, v, v, v, v] = [v, v, v, v, v, v])) = true) := by
  rw [decide_eq_true rfl]; decide
theorem six_z {x : Value} : ([x] : List Value).length * Int.toNat 6 ≤ 256 := by
  rw [List.length_singleton]; decide
theorem six_e {x : Value} : (List.replicate (Int.toNat 6) [x]).flatten = [x, x, x, x, x, x] := rfl
section
variable {α : Type} {M : Model} {A : Around} {t : Sem α} {Q : α → Shared → Prop} {E : Value → Shared → Prop} {s : Shared} {g : Heap} {L : Addr} {m : Str → Option Value} {news : List (Addr × Obj)} {D D' : Addr} {o o' : Obj}
/- the ledger less what is not asked any more -/
theorem trim1 (_F : Fr g L s.heap m) (N : News g L s.heap news) (_hl : 2 ≤ news.length) (_e : m (Str.ofString "cells") = some (.ref D)) (hm : (D, o) ∈ news) (h : News g L s.heap [(D, o)] → wpAny M A t Q E s) : wpAny M A t Q E s :=
  h fun p hp => N p (by rw [List.mem_singleton.mp hp]; exact hm)
theorem trim2 (x y : Str) (_F : Fr g L s.heap m) (N : News g L s.heap news) (_hl : 3 ≤ news.length) (_e : m x = some (.ref D)) (_e' : m y = some (.ref D')) (hm : (D, o) ∈ news) (hm' : (D', o') ∈ news)
    (h : News g L s.heap [(D', o'), (D, o)] → wpAny M A t Q E s) : wpAny M A t Q E s :=
  h fun p hp => N p (by rcases List.mem_cons.mp hp with rfl | hp; exact hm'; rw [List.mem_singleton.mp hp]; exact hm)
end
/- the number of the next token, forgotten (so that no long sums are carried along) -/
theorem fresh_toks {α : Type} {M : Model} {A : Around} {t : Sem α} {Q : α → Shared → Prop} {E : Value → Shared → Prop} {s : Shared} (h : ∀ tk : Nat, wpAny M A t Q E { s with toks := tk }) : wpAny M A t Q E s := h s.toks
theorem ne_self {a : Int} (h : Builtin.bitXor a 9223372036854775808 ≠ Builtin.bitXor a 9223372036854775808) : False := h rfl
theorem ord_key {N M r q v u : Int} (a : IsV N (r - 330) v) (b : IsV M (q - 330) u) (hN : 0 ≤ N) (hM : 0 ≤ M) (hr : 0 ≤ r) (hq : 0 ≤ q) (h : N * 10 ^ (r - 330 + 330).toNat ≤ M * 10 ^ (q - 330 + 330).toNat) : v ≤ u := by
  obtain ⟨n, rfl⟩ := Int.eq_ofNat_of_zero_le hN
  obtain ⟨k, rfl⟩ := Int.eq_ofNat_of_zero_le hM
  rw [a.eq, b.eq]
  refine fdv_mono (by omega) (by omega) ?_
  have e1 : (r - 330 + 380).toNat = (r - 330 + 330).toNat + 50 := by omega
  have e2 : (q - 330 + 380).toNat = (q - 330 + 330).toNat + 50 := by omega
  rw [e1, e2, Nat.pow_add, Nat.pow_add, ← Nat.mul_assoc, ← Nat.mul_assoc]
  refine Nat.mul_le_mul_right _ ?_
  have h2 : ((n * 10 ^ (r - 330 + 330).toNat : Nat) : Int) ≤ ((k * 10 ^ (q - 330 + 330).toNat : Nat) : Int) := by
    rw [Int.natCast_mul, Int.natCast_mul, Int.natCast_pow, Int.natCast_pow]; exact h
  exact Int.ofNat_le.mp h2
section
variable {N M r q v u : Int} (a : IsV N (r - 330) v) (b : IsV M (q - 330) u) (hN : 0 ≤ N) (hM : 0 ≤ M) (hr : 0 ≤ r) (hq : 0 ≤ q)
include a b hN hM hr hq
theorem end_le (h : N * 10 ^ (r - 330 + 330).toNat < M * 10 ^ (q - 330 + 330).toNat) : (decide ((if v = u then (0 : Int) else if v < u then -1 else 1) ≤ 0) == true) = true := by
  have k := ord_key a b hN hM hr hq (Int.le_of_lt h)
  have e : (if v = u then (0 : Int) else if v < u then -1 else 1) ≤ 0 := by split <;> (try split) <;> omega
  rw [decide_eq_true e]; rfl
theorem end_ge (h : M * 10 ^ (q - 330 + 330).toNat < N * 10 ^ (r - 330 + 330).toNat) : (decide (0 ≤ (if v = u then (0 : Int) else if v < u then -1 else 1)) == true) = true := by
  have k := ord_key b a hM hN hq hr (Int.le_of_lt h)
  have e : 0 ≤ (if v = u then (0 : Int) else if v < u then -1 else 1) := by split <;> (try split) <;> omega
  rw [decide_eq_true e]; rfl
theorem end_eq (h : ¬ N * 10 ^ (r - 330 + 330).toNat < M * 10 ^ (q - 330 + 330).toNat) (h2 : ¬ M * 10 ^ (q - 330 + 330).toNat < N * 10 ^ (r - 330 + 330).toNat) : (((if v = u then (0 : Int) else if v < u then -1 else 1) == 0) == true) = true := by
  have k := ord_key a b hN hM hr hq (Int.le_of_not_gt h2)
  have k2 := ord_key b a hM hN hq hr (Int.le_of_not_gt h)
  rw [if_pos (show v = u by omega)]; rfl
end
theorem lines_P31_Law_1 : True := by
  k_with "execs cons" => (
  k_here
  (with_reducible refine wpAny_execs_cons (fresh_toks fun tk9 => ?_))
  (try dsimp only)
  (try k_fold))
  k_with "eval BinOp" => (
  k_here
  (with_reducible refine wpAny_BinOp (fresh_toks fun tk9 => ?_))
  (try dsimp only)
  (try k_fold))
  k_with "exec Assign cons ListComp" => (
  k_here
  (with_reducible show wpAny _ _ (exec (Stmt.Assign (Expr.Name (Str.ofString "found") _ :: _) _ _) _) _ _ _)
  (rename News _ _ _ _ => N8)
  k_dflt (refine' trim1 ?yF N8 ?yl ?ye ?ym ?_; (case yl => exact Nat.le_of_ble_eq_true rfl); (case yF => k_asm); (case ye => rfl); (case ym => k_mem))
  intro N9
  (clear N8))
  k_with "exec Assign cons ListComp" => (
  k_here
  (with_reducible show wpAny _ _ (exec (Stmt.Assign (Expr.Name (Str.ofString "others") _ :: _) _ _) _) _ _ _)
  (rename News _ _ _ _ => N8)
  k_dflt (refine' trim2 (Str.ofString "cells") (Str.ofString "found") ?xF N8 ?xl ?xe ?xf ?xm ?xn ?_; (case xl => exact Nat.le_of_ble_eq_true rfl); (case xF => k_asm); (case xe => rfl); (case xf => rfl); (case xm => k_mem); (case xn => k_mem))
  intro N9
  (clear N8))
  k_with "exec Assign" => (
  k_here
  (with_reducible show wpAny _ _ (exec (Stmt.Assign (Expr.Tuple (Expr.Name (Str.ofString "one") _ :: _) _ _ :: _) _ _) _) _ _ _)
  (rename News _ _ _ _ => N8)
  k_dflt (refine' trim1 ?vF N8 ?vl ?ve ?vm ?_; (case vl => exact Nat.le_of_ble_eq_true rfl); (case vF => k_asm); (case ve => rfl); (case vm => k_mem))
  intro N9
  (clear N8))
  k_with "exec If" => (
  k_here
  (with_reducible show wpAny _ _ (exec (Stmt.If (Expr.Compare (Expr.Call _ _ _ _) _ _ _) _ _ _) _) _ _ _)
  (rename News _ _ _ _ => N8)
  k_dflt (refine' trim2 (Str.ofString "found") (Str.ofString "others") ?wF N8 ?wl ?we ?wf ?wm ?wn ?_; (case wl => exact Nat.le_of_ble_eq_true rfl); (case wF => k_asm); (case we => rfl); (case wf => rfl); (case wm => k_mem); (case wn => k_mem))
  intro N9
  (clear N8))
  k_with "mine close" => (
  kc_bool
  (refine goodW_bool (by with_reducible assumption) (by with_reducible assumption) (raisesW_false ?_) ?_)
  (· wrow_none_raised)
  (refine postW_of (by wrow_shape) (w_eq_bool (w_res rfl) w_lit) ?_)
  (with_reducible first
    | exact (ne_self (by assumption)).elim
    | exact end_le (by assumption) (by assumption) (by assumption) (by assumption) (by assumption) (by assumption) (by assumption)
    | exact end_ge (by assumption) (by assumption) (by assumption) (by assumption) (by assumption) (by assumption) (by assumption)
    | exact end_eq (by assumption) (by assumption) (by assumption) (by assumption) (by assumption) (by assumption) (by assumption) (by assumption)))
  k_with "mine prem c_numT" => (with_reducible first | assumption | exact num_A (by assumption) | exact num_B (by assumption))
  k_with "mine prem c_numF" => (with_reducible assumption)
  k_with "mine prem c_negx" => (with_reducible first | exact six_get | exact Eq.refl _ | assumption)
  k_with "mine prem c_cmpx" => (with_reducible first | exact six_get | exact Eq.refl _ | assumption)
  k_with "ite" => (
  k_here
  (with_reducible refine ite_neg six_no ?_))
  k_with "binaryOp Mult ref int" => (
  k_here
  (with_reducible show wpAny _ _ (binaryOp Operator.Mult (Value.ref _) (Value.int 6 _)) _ _ _)
  k_dflt (refine KMa.mul (by k_asm) (by k_asm) (by is_list) (by decide) (by decide) (by exact six_z) (by exact six_e) ?_)
  intro D9 h9 F9 N9 l9
  (try k_lt l9)
  (try k_sweep))
  k_with "mine len" => (with_reducible first | exact len_c1 | exact tx_lenA (by assumption) (by assumption) | exact tx_lenB (by assumption) (by assumption) | exact tx_len1 (by assumption) (by assumption) | exact tx_len2 (by assumption) (by assumption) | exact tx_len3 (by assumption) (by assumption))
  k_with "binaryOp Mult int int" => (
  k_here
  (with_reducible show wpAny _ _ (binaryOp Operator.Mult (Value.int _ _) (Value.int (10 ^ Int.toNat _) _)) _ _ _)
  (with_reducible refine mul_law (by assumption) (by assumption) ?_))
  k_with "subscriptTail List cons Slice ref ref" => walk_at "last subscriptTail"
  k_with "mine off" => first | assumption | (simp only [LCg.Off3, and_true]; assumption)
  k_with "subscriptTail Name Slice ref ref" => (
  k_here
  (with_reducible show wpAny _ _ (subscriptTail _ (PySem.Expr.Slice (some _) none none _) (Value.ref _) (Value.ref _)) _ _ _)
  k_dflt (refine kmk_slice_ints (by k_asm) (by k_asm) (by kmk_list) (by kmk_part) (by kmk_part) (by l_ints) (by exact kmk_from (by l_ints) (by kmk_sign)) (by kmk_len) ?_ (by with_unfolding_all rfl) (by kmk_pure) (by kmk_size))
  intro D' ws' h' F' N' l1 hI' hC' hL'
  (try simp only [Int.reduceNeg, Int.neg_neg, Int.reduceToNat] at hI' hC' hL')
  (try k_lt l1)
  (try k_sweep))
  k_with "binaryOp Mod int int" => (
  k_here
  (with_reducible show wpAny _ _ (binaryOp Operator.Mod (Value.int _ _) (Value.int 631 _)) _ _ _)
  (with_reducible refine mod_fresh (by decide) (fun r9 h90 h91 => ?_)))
  k_with "binaryOp Mod int int" => (
  k_here
  (with_reducible show wpAny _ _ (binaryOp Operator.Mod (Value.int _ _) (Value.int (10 ^ Int.toNat 19) _)) _ _ _)
  (with_reducible refine mod_fresh19 (fun r9 h90 h91 => ?_)))
  k_with "call ref" => (
  k_here
  (with_reducible show wpAny _ _ (call (Value.ref 189) _) _ _ _)
  k_dflt (refine use (by walk_at "mine here") (by exact c_ways _ _ _ _ _ _ _ _ _ _ (by omega) (by omega) (by omega) (by omega)) (by walk_at "mine room") ?_)
  intro v9 l91 l92 l93 l94 l95 l96 iv9 v90 v91 o90 o91 o92 o93 o94 o95 o96 D9 t91 t92 t93 t94 t95 t96 h9 tk9 F9 N9
  (try dsimp only)
  (try k_fold))
  trivial
theorem lines_P31_Law_2 : True := by
  k_with "mine claimP" => (
  (with_reducible show Claim0 _ _ _ _ 161 _ _ _ _)
  (with_reducible exact c_numT _ _ _ _ _ _ _ (by walk_at "mine prem c_numT")))
  trivial
theorem lines_P31_Law_3 : True := by
  k_with "mine claimP" => (
  (with_reducible show Claim0 _ _ _ _ 161 _ _ _ _)
  (with_reducible exact c_numF _ _ _ _ _ _ _ (by walk_at "mine prem c_numF")))
  trivial
theorem lines_P31_Law_4 : True := by
  k_with "mine claimP" => (
  (with_reducible show Claim0 _ _ _ _ 168 _ _ _ _)
  (with_reducible exact c_negx _ _ _ _ _ _ _ (by walk_at "mine prem c_negx") (by walk_at "mine prem c_negx") (by walk_at "mine prem c_negx")))
  trivial
theorem lines_P31_Law_5 : True := by
  k_with "mine claimP" => (
  (with_reducible show Claim0 _ _ _ _ 182 _ _ _ _)
  (with_reducible exact c_cmpx _ _ _ _ _ _ _ _ _ _ (by walk_at "mine prem c_cmpx") (by walk_at "mine prem c_cmpx") (by walk_at "mine prem c_cmpx") (by walk_at "mine prem c_cmpx") (by walk_at "mine prem c_cmpx") (by walk_at "mine prem c_cmpx")))
  trivial
set_option maxHeartbeats 0 in
theorem law_holds : PySem.Challenge.rw_sa0364_01.Holds := hd (by
  k_go0
  (all_goals try k_fold)
  k_steps)

end Mine
set_option maxRecDepth 100000 in
theorem PySem.Challenge.cw_sa0364_01_holds : PySem.Challenge.rw_sa0364_01.Holds := by
  exact Mine.law_holds
